import PyProof.Rows.All
import OpenK.KTop
import OpenK.KMake
import OpenK.KGet
import OpenK.KWalk
import OpenK.Peek
import Open.Head
import Open.Seg
import Open.Boot
import Open.Line
import Open.Tree
import Wide.OneHead
import Wide.BridgeG
import Wide.Tac
import Wide.Ends
import Wide.ObjOpen
import Wide.Well
import Wide.Head
import Wide.OfTm
import Wide.Vals
import Wide.OfPy
import PySem.Challenge.RW_pb0037_01
set_option Elab.async false
set_option linter.all false
set_option genSizeOf false
set_option genInjectivity false
set_option tactic.hygienic false
set_option backward.match.sparseCases false
set_option maxRecDepth 8000
namespace jD
theorem Ta{P:Prop}{p:Prop}(h:p)(k:p->P):P:=k h
theorem Xr{P:Prop}{α:Sort _}{p:α->Prop}(h:∃x0,p x0)(k:∀x0,p x0->P):P:=h.elim fun x h=>Ta h (k x)
theorem Qa{P:Prop}{α:Sort _}{β:Sort _}{p:α->β->Prop}(h:∃x0,∃x1,p x0 x1)(k:∀x0 x1,p x0 x1->P):P:=h.elim fun x h=>Xr h (k x)
theorem Tb{P:Prop}{p q:Prop}(h:p/\q)(k:p->q->P):P:=Ta h.2 (k h.1)
theorem bR{P:Prop}{α:Sort _}{p q:α->Prop}(h:∃x0,p x0/\q x0)(k:∀x0,p x0->q x0->P):P:=h.elim fun x h=>Tb h (k x)
theorem n6{P:Prop}{α:Sort _}{β:Sort _}{p q:α->β->Prop}(h:∃x0,∃x1,p x0 x1/\q x0 x1)(k:∀x0 x1,p x0 x1->q x0 x1->P):P:=h.elim fun x h=>bR h (k x)
theorem qj{P:Prop}{α:Sort _}{β:Sort _}{γ:Sort _}{p q:α->β->γ->Prop}(h:∃x0,∃x1,∃x2,p x0 x1 x2/\q x0 x1 x2)(k:∀x0 x1 x2,p x0 x1 x2->q x0 x1 x2->P):P:=h.elim fun x h=>n6 h (k x)
theorem Tc{P:Prop}{α:Sort _}{β:Sort _}{γ:Sort _}{δ:Sort _}{p q:α->β->γ->δ->Prop}(h:∃x0,∃x1,∃x2,∃x3,p x0 x1 x2 x3/\q x0 x1 x2 x3)(k:∀x0 x1 x2 x3,p x0 x1 x2 x3->q x0 x1 x2 x3->P):P:=h.elim fun x h=>qj h (k x)
theorem n7{P:Prop}{p q r:Prop}(h:p/\q/\r)(k:p->q->r->P):P:=Tb h.2 (k h.1)
theorem ja{P:Prop}{α:Sort _}{p q r:α->Prop}(h:∃x0,p x0/\q x0/\r x0)(k:∀x0,p x0->q x0->r x0->P):P:=h.elim fun x h=>n7 h (k x)
theorem Qb{P:Prop}{α:Sort _}{β:Sort _}{p q r:α->β->Prop}(h:∃x0,∃x1,p x0 x1/\q x0 x1/\r x0 x1)(k:∀x0 x1,p x0 x1->q x0 x1->r x0 x1->P):P:=h.elim fun x h=>ja h (k x)
theorem n8{P:Prop}{α:Sort _}{β:Sort _}{γ:Sort _}{p q r:α->β->γ->Prop}(h:∃x0,∃x1,∃x2,p x0 x1 x2/\q x0 x1 x2/\r x0 x1 x2)(k:∀x0 x1 x2,p x0 x1 x2->q x0 x1 x2->r x0 x1 x2->P):P:=h.elim fun x h=>Qb h (k x)
theorem MR{P:Prop}{α:Sort _}{β:Sort _}{γ:Sort _}{δ:Sort _}{p q r:α->β->γ->δ->Prop}(h:∃x0,∃x1,∃x2,∃x3,p x0 x1 x2 x3/\q x0 x1 x2 x3/\r x0 x1 x2 x3)(k:∀x0 x1 x2 x3,p x0 x1 x2 x3->q x0 x1 x2 x3->r x0 x1 x2 x3->P):P:=h.elim fun x h=>n8 h (k x)
theorem n9{P:Prop}{p q r s:Prop}(h:p/\q/\r/\s)(k:p->q->r->s->P):P:=n7 h.2 (k h.1)
theorem zb{P:Prop}{α:Sort _}{p q r s:α->Prop}(h:∃x0,p x0/\q x0/\r x0/\s x0)(k:∀x0,p x0->q x0->r x0->s x0->P):P:=h.elim fun x h=>n9 h (k x)
theorem DQ{P:Prop}{α:Sort _}{β:Sort _}{p q r s:α->β->Prop}(h:∃x0,∃x1,p x0 x1/\q x0 x1/\r x0 x1/\s x0 x1)(k:∀x0 x1,p x0 x1->q x0 x1->r x0 x1->s x0 x1->P):P:=h.elim fun x h=>zb h (k x)
theorem lY{P:Prop}{α:Sort _}{β:Sort _}{γ:Sort _}{p q r s:α->β->γ->Prop}(h:∃x0,∃x1,∃x2,p x0 x1 x2/\q x0 x1 x2/\r x0 x1 x2/\s x0 x1 x2)(k:∀x0 x1 x2,p x0 x1 x2->q x0 x1 x2->r x0 x1 x2->s x0 x1 x2->P):P:=h.elim fun x h=>DQ h (k x)
theorem Jy{P:Prop}{α:Sort _}{β:Sort _}{γ:Sort _}{δ:Sort _}{p q r s:α->β->γ->δ->Prop}(h:∃x0,∃x1,∃x2,∃x3,p x0 x1 x2 x3/\q x0 x1 x2 x3/\r x0 x1 x2 x3/\s x0 x1 x2 x3)(k:∀x0 x1 x2 x3,p x0 x1 x2 x3->q x0 x1 x2 x3->r x0 x1 x2 x3->s x0 x1 x2 x3->P):P:=h.elim fun x h=>lY h (k x)
theorem MS{P:Prop}{p q r s t:Prop}(h:p/\q/\r/\s/\t)(k:p->q->r->s->t->P):P:=n9 h.2 (k h.1)
theorem Td{P:Prop}{α:Sort _}{p q r s t:α->Prop}(h:∃x0,p x0/\q x0/\r x0/\s x0/\t x0)(k:∀x0,p x0->q x0->r x0->s x0->t x0->P):P:=h.elim fun x h=>MS h (k x)
theorem Xs{P:Prop}{α:Sort _}{β:Sort _}{p q r s t:α->β->Prop}(h:∃x0,∃x1,p x0 x1/\q x0 x1/\r x0 x1/\s x0 x1/\t x0 x1)(k:∀x0 x1,p x0 x1->q x0 x1->r x0 x1->s x0 x1->t x0 x1->P):P:=h.elim fun x h=>Td h (k x)
theorem Te{P:Prop}{α:Sort _}{β:Sort _}{γ:Sort _}{p q r s t:α->β->γ->Prop}(h:∃x0,∃x1,∃x2,p x0 x1 x2/\q x0 x1 x2/\r x0 x1 x2/\s x0 x1 x2/\t x0 x1 x2)(k:∀x0 x1 x2,p x0 x1 x2->q x0 x1 x2->r x0 x1 x2->s x0 x1 x2->t x0 x1 x2->P):P:=h.elim fun x h=>Xs h (k x)
theorem Xu{P:Prop}{α:Sort _}{β:Sort _}{γ:Sort _}{δ:Sort _}{p q r s t:α->β->γ->δ->Prop}(h:∃x0,∃x1,∃x2,∃x3,p x0 x1 x2 x3/\q x0 x1 x2 x3/\r x0 x1 x2 x3/\s x0 x1 x2 x3/\t x0 x1 x2 x3)(k:∀x0 x1 x2 x3,p x0 x1 x2 x3->q x0 x1 x2 x3->r x0 x1 x2 x3->s x0 x1 x2 x3->t x0 x1 x2 x3->P):P:=h.elim fun x h=>Te h (k x)
theorem Tf{P:Prop}{p q r s t u:Prop}(h:p/\q/\r/\s/\t/\u)(k:p->q->r->s->t->u->P):P:=MS h.2 (k h.1)
theorem Xv{P:Prop}{α:Sort _}{p q r s t u:α->Prop}(h:∃x0,p x0/\q x0/\r x0/\s x0/\t x0/\u x0)(k:∀x0,p x0->q x0->r x0->s x0->t x0->u x0->P):P:=h.elim fun x h=>Tf h (k x)
theorem Ti{P:Prop}{p q r s t u v:Prop}(h:p/\q/\r/\s/\t/\u/\v)(k:p->q->r->s->t->u->v->P):P:=Tf h.2 (k h.1)
theorem Xw{P:Prop}{α:Sort _}{p q r s t u v:α->Prop}(h:∃x0,p x0/\q x0/\r x0/\s x0/\t x0/\u x0/\v x0)(k:∀x0,p x0->q x0->r x0->s x0->t x0->u x0->v x0->P):P:=h.elim fun x h=>Ti h (k x)
theorem Xx{P:Prop}{α:Sort _}{β:Sort _}{p q r s t u v:α->β->Prop}(h:∃x0,∃x1,p x0 x1/\q x0 x1/\r x0 x1/\s x0 x1/\t x0 x1/\u x0 x1/\v x0 x1)(k:∀x0 x1,p x0 x1->q x0 x1->r x0 x1->s x0 x1->t x0 x1->u x0 x1->v x0 x1->P):P:=h.elim fun x h=>Xw h (k x)
theorem Tj{P:Prop}{α:Sort _}{β:Sort _}{γ:Sort _}{p q r s t u v:α->β->γ->Prop}(h:∃x0,∃x1,∃x2,p x0 x1 x2/\q x0 x1 x2/\r x0 x1 x2/\s x0 x1 x2/\t x0 x1 x2/\u x0 x1 x2/\v x0 x1 x2)(k:∀x0 x1 x2,p x0 x1 x2->q x0 x1 x2->r x0 x1 x2->s x0 x1 x2->t x0 x1 x2->u x0 x1 x2->v x0 x1 x2->P):P:=h.elim fun x h=>Xx h (k x)
theorem Xy{P:Prop}{p q r s t u v w:Prop}(h:p/\q/\r/\s/\t/\u/\v/\w)(k:p->q->r->s->t->u->v->w->P):P:=Ti h.2 (k h.1)
theorem Xz{P:Prop}{p q r s t u v w x:Prop}(h:p/\q/\r/\s/\t/\u/\v/\w/\x)(k:p->q->r->s->t->u->v->w->x->P):P:=Xy h.2 (k h.1)
theorem Tn{P:Prop}{p q r s t u v w x y:Prop}(h:p/\q/\r/\s/\t/\u/\v/\w/\x/\y)(k:p->q->r->s->t->u->v->w->x->y->P):P:=Xz h.2 (k h.1)
theorem OY{P:Prop}{p q r s t u v w x y z:Prop}(h:p/\q/\r/\s/\t/\u/\v/\w/\x/\y/\z)(k:p->q->r->s->t->u->v->w->x->y->z->P):P:=Tn h.2 (k h.1)
theorem To{P:Prop}{α:Sort _}{p q r s t u v w x y z:α->Prop}(h:∃x0,p x0/\q x0/\r x0/\s x0/\t x0/\u x0/\v x0/\w x0/\x x0/\y x0/\z x0)(k:∀x0,p x0->q x0->r x0->s x0->t x0->u x0->v x0->w x0->x x0->y x0->z x0->P):P:=h.elim fun x h=>OY h (k x)
theorem Tp{P:Prop}{α:Sort _}{β:Sort _}{p q r s t u v w x y z:α->β->Prop}(h:∃x0,∃x1,p x0 x1/\q x0 x1/\r x0 x1/\s x0 x1/\t x0 x1/\u x0 x1/\v x0 x1/\w x0 x1/\x x0 x1/\y x0 x1/\z x0 x1)(k:∀x0 x1,p x0 x1->q x0 x1->r x0 x1->s x0 x1->t x0 x1->u x0 x1->v x0 x1->w x0 x1->x x0 x1->y x0 x1->z x0 x1->P):P:=h.elim fun x h=>To h (k x)
theorem Tq{P:Prop}{α:Sort _}{β:Sort _}{γ:Sort _}{p q r s t u v w x y z:α->β->γ->Prop}(h:∃x0,∃x1,∃x2,p x0 x1 x2/\q x0 x1 x2/\r x0 x1 x2/\s x0 x1 x2/\t x0 x1 x2/\u x0 x1 x2/\v x0 x1 x2/\w x0 x1 x2/\x x0 x1 x2/\y x0 x1 x2/\z x0 x1 x2)(k:∀x0 x1 x2,p x0 x1 x2->q x0 x1 x2->r x0 x1 x2->s x0 x1 x2->t x0 x1 x2->u x0 x1 x2->v x0 x1 x2->w x0 x1 x2->x x0 x1 x2->y x0 x1 x2->z x0 x1 x2->P):P:=h.elim fun x h=>Tp h (k x)
theorem Tr{P:Prop}{p q r s t u v w x y z a:Prop}(h:p/\q/\r/\s/\t/\u/\v/\w/\x/\y/\z/\a)(k:p->q->r->s->t->u->v->w->x->y->z->a->P):P:=OY h.2 (k h.1)
theorem Ts{P:Prop}{α:Sort _}{p q r s t u v w x y z a:α->Prop}(h:∃x0,p x0/\q x0/\r x0/\s x0/\t x0/\u x0/\v x0/\w x0/\x x0/\y x0/\z x0/\a x0)(k:∀x0,p x0->q x0->r x0->s x0->t x0->u x0->v x0->w x0->x x0->y x0->z x0->a x0->P):P:=h.elim fun x h=>Tr h (k x)
theorem Tt{P:Prop}{α:Sort _}{β:Sort _}{p q r s t u v w x y z a:α->β->Prop}(h:∃x0,∃x1,p x0 x1/\q x0 x1/\r x0 x1/\s x0 x1/\t x0 x1/\u x0 x1/\v x0 x1/\w x0 x1/\x x0 x1/\y x0 x1/\z x0 x1/\a x0 x1)(k:∀x0 x1,p x0 x1->q x0 x1->r x0 x1->s x0 x1->t x0 x1->u x0 x1->v x0 x1->w x0 x1->x x0 x1->y x0 x1->z x0 x1->a x0 x1->P):P:=h.elim fun x h=>Ts h (k x)
theorem Tu{P:Prop}{α:Sort _}{β:Sort _}{γ:Sort _}{p q r s t u v w x y z a:α->β->γ->Prop}(h:∃x0,∃x1,∃x2,p x0 x1 x2/\q x0 x1 x2/\r x0 x1 x2/\s x0 x1 x2/\t x0 x1 x2/\u x0 x1 x2/\v x0 x1 x2/\w x0 x1 x2/\x x0 x1 x2/\y x0 x1 x2/\z x0 x1 x2/\a x0 x1 x2)(k:∀x0 x1 x2,p x0 x1 x2->q x0 x1 x2->r x0 x1 x2->s x0 x1 x2->t x0 x1 x2->u x0 x1 x2->v x0 x1 x2->w x0 x1 x2->x x0 x1 x2->y x0 x1 x2->z x0 x1 x2->a x0 x1 x2->P):P:=h.elim fun x h=>Tt h (k x)
theorem Tv{P:Prop}{α:Sort _}{β:Sort _}{γ:Sort _}{δ:Sort _}{p q r s t u v w x y z a:α->β->γ->δ->Prop}(h:∃x0,∃x1,∃x2,∃x3,p x0 x1 x2 x3/\q x0 x1 x2 x3/\r x0 x1 x2 x3/\s x0 x1 x2 x3/\t x0 x1 x2 x3/\u x0 x1 x2 x3/\v x0 x1 x2 x3/\w x0 x1 x2 x3/\x x0 x1 x2 x3/\y x0 x1 x2 x3/\z x0 x1 x2 x3/\a x0 x1 x2 x3)(k:∀x0 x1 x2 x3,p x0 x1 x2 x3->q x0 x1 x2 x3->r x0 x1 x2 x3->s x0 x1 x2 x3->t x0 x1 x2 x3->u x0 x1 x2 x3->v x0 x1 x2 x3->w x0 x1 x2 x3->x x0 x1 x2 x3->y x0 x1 x2 x3->z x0 x1 x2 x3->a x0 x1 x2 x3->P):P:=h.elim fun x h=>Tu h (k x)
theorem Tw{P:Prop}{α:Sort _}{β:Sort _}{γ:Sort _}{δ:Sort _}{ε:Sort _}{p q r s t u v w x y z a:α->β->γ->δ->ε->Prop}(h:∃x0,∃x1,∃x2,∃x3,∃x4,p x0 x1 x2 x3 x4/\q x0 x1 x2 x3 x4/\r x0 x1 x2 x3 x4/\s x0 x1 x2 x3 x4/\t x0 x1 x2 x3 x4/\u x0 x1 x2 x3 x4/\v x0 x1 x2 x3 x4/\w x0 x1 x2 x3 x4/\x x0 x1 x2 x3 x4/\y x0 x1 x2 x3 x4/\z x0 x1 x2 x3 x4/\a x0 x1 x2 x3 x4)(k:∀x0 x1 x2 x3 x4,p x0 x1 x2 x3 x4->q x0 x1 x2 x3 x4->r x0 x1 x2 x3 x4->s x0 x1 x2 x3 x4->t x0 x1 x2 x3 x4->u x0 x1 x2 x3 x4->v x0 x1 x2 x3 x4->w x0 x1 x2 x3 x4->x x0 x1 x2 x3 x4->y x0 x1 x2 x3 x4->z x0 x1 x2 x3 x4->a x0 x1 x2 x3 x4->P):P:=h.elim fun x h=>Tv h (k x)
theorem Tx{P:Prop}{α:Sort _}{β:Sort _}{γ:Sort _}{δ:Sort _}{ε:Sort _}{ζ:Sort _}{p q r s t u v w x y z a:α->β->γ->δ->ε->ζ->Prop}(h:∃x0,∃x1,∃x2,∃x3,∃x4,∃x5,p x0 x1 x2 x3 x4 x5/\q x0 x1 x2 x3 x4 x5/\r x0 x1 x2 x3 x4 x5/\s x0 x1 x2 x3 x4 x5/\t x0 x1 x2 x3 x4 x5/\u x0 x1 x2 x3 x4 x5/\v x0 x1 x2 x3 x4 x5/\w x0 x1 x2 x3 x4 x5/\x x0 x1 x2 x3 x4 x5/\y x0 x1 x2 x3 x4 x5/\z x0 x1 x2 x3 x4 x5/\a x0 x1 x2 x3 x4 x5)(k:∀x0 x1 x2 x3 x4 x5,p x0 x1 x2 x3 x4 x5->q x0 x1 x2 x3 x4 x5->r x0 x1 x2 x3 x4 x5->s x0 x1 x2 x3 x4 x5->t x0 x1 x2 x3 x4 x5->u x0 x1 x2 x3 x4 x5->v x0 x1 x2 x3 x4 x5->w x0 x1 x2 x3 x4 x5->x x0 x1 x2 x3 x4 x5->y x0 x1 x2 x3 x4 x5->z x0 x1 x2 x3 x4 x5->a x0 x1 x2 x3 x4 x5->P):P:=h.elim fun x h=>Tw h (k x)
theorem Tz{P:Prop}{α:Sort _}{β:Sort _}{γ:Sort _}{δ:Sort _}{ε:Sort _}{ζ:Sort _}{η:Sort _}{p q r s t u v w x y z a:α->β->γ->δ->ε->ζ->η->Prop}(h:∃x0,∃x1,∃x2,∃x3,∃x4,∃x5,∃x6,p x0 x1 x2 x3 x4 x5 x6/\q x0 x1 x2 x3 x4 x5 x6/\r x0 x1 x2 x3 x4 x5 x6/\s x0 x1 x2 x3 x4 x5 x6/\t x0 x1 x2 x3 x4 x5 x6/\u x0 x1 x2 x3 x4 x5 x6/\v x0 x1 x2 x3 x4 x5 x6/\w x0 x1 x2 x3 x4 x5 x6/\x x0 x1 x2 x3 x4 x5 x6/\y x0 x1 x2 x3 x4 x5 x6/\z x0 x1 x2 x3 x4 x5 x6/\a x0 x1 x2 x3 x4 x5 x6)(k:∀x0 x1 x2 x3 x4 x5 x6,p x0 x1 x2 x3 x4 x5 x6->q x0 x1 x2 x3 x4 x5 x6->r x0 x1 x2 x3 x4 x5 x6->s x0 x1 x2 x3 x4 x5 x6->t x0 x1 x2 x3 x4 x5 x6->u x0 x1 x2 x3 x4 x5 x6->v x0 x1 x2 x3 x4 x5 x6->w x0 x1 x2 x3 x4 x5 x6->x x0 x1 x2 x3 x4 x5 x6->y x0 x1 x2 x3 x4 x5 x6->z x0 x1 x2 x3 x4 x5 x6->a x0 x1 x2 x3 x4 x5 x6->P):P:=h.elim fun x h=>Tx h (k x)
theorem OZ{P:Prop}{α:Sort _}{β:Sort _}{γ:Sort _}{δ:Sort _}{ε:Sort _}{ζ:Sort _}{η:Sort _}{θ:Sort _}{p q r s t u v w x y z a:α->β->γ->δ->ε->ζ->η->θ->Prop}(h:∃x0,∃x1,∃x2,∃x3,∃x4,∃x5,∃x6,∃x7,p x0 x1 x2 x3 x4 x5 x6 x7/\q x0 x1 x2 x3 x4 x5 x6 x7/\r x0 x1 x2 x3 x4 x5 x6 x7/\s x0 x1 x2 x3 x4 x5 x6 x7/\t x0 x1 x2 x3 x4 x5 x6 x7/\u x0 x1 x2 x3 x4 x5 x6 x7/\v x0 x1 x2 x3 x4 x5 x6 x7/\w x0 x1 x2 x3 x4 x5 x6 x7/\x x0 x1 x2 x3 x4 x5 x6 x7/\y x0 x1 x2 x3 x4 x5 x6 x7/\z x0 x1 x2 x3 x4 x5 x6 x7/\a x0 x1 x2 x3 x4 x5 x6 x7)(k:∀x0 x1 x2 x3 x4 x5 x6 x7,p x0 x1 x2 x3 x4 x5 x6 x7->q x0 x1 x2 x3 x4 x5 x6 x7->r x0 x1 x2 x3 x4 x5 x6 x7->s x0 x1 x2 x3 x4 x5 x6 x7->t x0 x1 x2 x3 x4 x5 x6 x7->u x0 x1 x2 x3 x4 x5 x6 x7->v x0 x1 x2 x3 x4 x5 x6 x7->w x0 x1 x2 x3 x4 x5 x6 x7->x x0 x1 x2 x3 x4 x5 x6 x7->y x0 x1 x2 x3 x4 x5 x6 x7->z x0 x1 x2 x3 x4 x5 x6 x7->a x0 x1 x2 x3 x4 x5 x6 x7->P):P:=h.elim fun x h=>Tz h (k x)
theorem cl1{a m n:Nat}(h:a<=m)(e:Nat.ble m n=true):a<=n:=Nat.le_trans h (Nat.le_of_ble_eq_true e)
theorem cl3{a m d:Nat}(h:m<=d)(e:Nat.ble a m=true):a<=d:=Nat.le_trans (Nat.le_of_ble_eq_true e) h
theorem bc{P:Prop}(h:(P->False)->False):P:=Classical.byContradiction h
@[elab_as_elim] theorem az{α:Type}{a b:α}{motive:α->Prop}(h:a=b)(m:motive b):motive a:=h.symm▸m
@[elab_as_elim] theorem Jn{α:Type}{a b:α}{motive:α->Prop}(h:b=a)(m:motive b):motive a:=h▸m
theorem F8{m n:Nat}(h:m<n):n-1-m<n:=Nat.lt_of_le_of_lt (Nat.sub_le _ _) (Nat.sub_lt (Nat.zero_lt_of_lt h) Nat.one_pos)
theorem F9{m n i:Nat}(h:m<n)(h':i<n)(ne:¬m=i):¬n-1-m=n-1-i:=fun e=>
 ne ((Nat.sub_sub_self (Nat.le_pred_of_lt h)).symm.trans ((congrArg (n-1 - ·) e).trans (Nat.sub_sub_self (Nat.le_pred_of_lt h'))))
theorem Qc{m n:Nat}(h:m<n):n+1-1-m=n-1-m+1:=by
 cases n with
 |zero=>exact absurd h (Nat.not_lt_zero _)
 |succ k=>exact Nat.succ_sub (Nat.le_of_lt_succ h)
theorem ai{a b x y:Nat}(h:a<=b)(e:x+b<=y+a:=by omega):x<=y:=Nat.le_of_add_le_add_right (Nat.le_trans e (Nat.add_le_add_left h y))
theorem aZ{a b c d x y:Nat}(h:a<=b)(i:c<=d)(e:x+(b+d)<=y+(a+c):=by omega):x<=y:=ai (Nat.add_le_add h i) e
theorem jI{a b c d s t x y:Nat}(h:a<=b)(i:c<=d)(j:s<=t)(e:x+(b+(d+t))<=y+(a+(c+s)):=by omega):x<=y:=aZ h (Nat.add_le_add i j) e
theorem uK{a b c d s t u v x y:Nat}(h:a<=b)(i:c<=d)(j:s<=t)(k:u<=v)(e:x+(b+(d+(t+v)))<=y+(a+(c+(s+u))):=by omega):x<=y:=jI h i (Nat.add_le_add j k) e
theorem fk5{a b c d s t u v w z x y:Nat}(h:a<=b)(i:c<=d)(j:s<=t)(k:u<=v)(l:w<=z)(e:x+(b+(d+(t+(v+z))))<=y+(a+(c+(s+(u+w)))):=by omega):x<=y:=uK h i j (Nat.add_le_add k l) e
theorem fk6{a b c d s t u v w z m n x y:Nat}(h:a<=b)(i:c<=d)(j:s<=t)(k:u<=v)(l:w<=z)(o:m<=n)(e:x+(b+(d+(t+(v+(z+n)))))<=y+(a+(c+(s+(u+(w+m))))):=by omega):x<=y:=fk5 h i j k (Nat.add_le_add l o) e
theorem iq{a b:Nat}(h:a=b):a<=b:=Nat.le_of_eq h
theorem xC{a b:Nat}(h:a=b):b<=a:=Nat.le_of_eq h.symm
theorem qk(m:Nat){a b:Nat}(h:a<=b):m*a<=m*b:=Nat.mul_le_mul_left m h
theorem DR(a b:Nat):a<=a-b+b:=Nat.le_add_of_sub_le (Nat.le_refl _)
theorem nco{n:Nat}:((no_index (OfNat.ofNat n):Nat):Int)=(OfNat.ofNat n:Int):=rfl
theorem xD{a b x y:Int}(h:a<=b)(e:x+b<=y+a:=by omega):x<=y:=Int.le_of_add_le_add_right (Int.le_trans e (Int.add_le_add_left h y))
theorem zc{a b c d x y:Int}(h:a<=b)(i:c<=d)(e:x+(b+d)<=y+(a+c):=by omega):x<=y:=xD (Int.add_le_add h i) e
theorem WM{a b c d s t x y:Int}(h:a<=b)(i:c<=d)(j:s<=t)(e:x+(b+(d+t))<=y+(a+(c+s)):=by omega):x<=y:=zc h (Int.add_le_add i j) e
theorem fzE{a b:Int}(h:a=b):a<=b:=Int.le_of_eq h
theorem fzG{a b:Int}(h:a=b):b<=a:=Int.le_of_eq h.symm
theorem DS(s:Nat):(0:Int)<=s:=Int.natCast_nonneg s
end jD
local macro_rules |`(tactic|omega)=>`(tactic|first|with_reducible assumption|exact jD.cl1 (by with_reducible assumption) (by with_reducible_and_instances rfl)|exact jD.cl3 (by with_reducible assumption) (by with_reducible_and_instances rfl)|(simp+arith only;done)|(simp+arith only[jD.nco];done)|lia|omega (config:={}))
namespace jD
open PySem PySem.W PyProof.Rows PySem.Challenge
section
set_option maxRecDepth 100000
noncomputable abbrev pw:=pw_pb0037_01
noncomputable abbrev MT:Value:=.type "tuple"
noncomputable abbrev Qd:Value:=.type "dict"
noncomputable abbrev Qe:Value:=.type "code"
noncomputable abbrev iO:Value:=.type "function"
noncomputable abbrev ql:Value:=.type "type"
noncomputable def tu(l:List Value):Obj:={cls:=MT,data:=.seq ⟨l⟩}
noncomputable def di(l:List DictEntry)(n:Nat):Obj:={cls:=Qd,data:=.dict ⟨l⟩ n}
noncomputable def en(P:Params)(k:Str)(t:Nat)(v:Value):DictEntry:={hash:=PyData.keyHash P k,key:=.str k t,val:=v}
noncomputable def sk(k:Str)(t a:Nat):Str×Nat×Nat:=(k,t,a)
noncomputable def Hh(P:Params)(l:List (Str×Nat×Nat)):List DictEntry:=l.map fun x=>en P x.1 x.2.1 (.ref x.2.2)
noncomputable def co(n q:Str)(t l a c:Nat)(r:Nat)(b:Bool)(r2 t3:Nat)(vs:List Value)(l2 t4:Nat):Obj:=
 {cls:=Qe,data:=.fields ⟨[.str n t,.str q (t+1),.str "/claim/cut.py" (t+2),.int l 0,.int a 0,.int 0 0,.int 0 0,.int c 0,.ref r,.bool b,.int 181 0,.ref r2,.none]++vs++[.int t3 0,.int l2 0,.str "/claim/cut.py" t4]⟩}
noncomputable def fr(c n:Nat)(s:Str)(t:Nat):Obj:={cls:=.type "frame",slots:=#[some (.ref c),some (.ref 3),some (.ref n),none,some (.str s t),none,some (.ref 0)]}
noncomputable def fR:List Stmt:=behindTheImports pw
noncomputable def zd:Env:={scope:=pw.main.scope,locals:=mainNs,globals:=mainNs,cells:=[],code:=.ref 13,frame:=some 14}
noncomputable def kb:Code:=.body fR zd
noncomputable def ME(q:Str)(s:List Stmt)(g:Nat)(pm cd c:Value):Obj:=match s with
 |.FunctionDef n ar b _ _ _ sc _ _ _::_=>{cls:=c,data:=.func {name:=n,qualname:=q,params:=ar,body:=.stmts b,scope:=sc,globals:=g,closure:=[],defaults:=.none,kwdefaults:=.none,pyModule:=pm,code:=cd}}
 |_=>{cls:=.none}
noncomputable def nc:Option Stmt->List Stmt
 |some (.ClassDef _ _ _ b _ _ _ _ _ _ _)=>b
 |_=>[]
noncomputable def sx(t:BT):List (Nat×Obj)->BT
 |[]=>t
 |p::l=>sx (t.ins p.1 p.2) l
noncomputable def WN:List (Str×Nat×Nat):=[sk "const" 236 48,sk "obj" 241 49,sk "disc" 246 50,sk "comp" 251 51,sk "index" 256 52,sk "slice" 261 53,sk "deref" 266 54,sk "op" 271 55,sk "in" 276 56,sk "qual" 281 57,sk "conv" 286 58,sk "attrof" 291 59,sk "taskattr" 296 60,sk "accessto" 301 61,sk "subtype" 306 62,sk "new" 311 63,sk "newof" 316 64,sk "copy" 321 66,sk "arrayof" 326 67,sk "recordof" 331 68,sk "extendof" 336 69,sk "callf" 341 70,sk "dispatchf" 346 71,sk "protcall" 351 72,sk "place" 356 73,sk "placecomp" 361 74,sk "placeindex" 366 75,sk "placeslice" 371 76,sk "placederef" 376 77,sk "placevalue" 381 78,sk "target" 386 79,sk "drop" 391 80,sk "actual" 396 81,sk "actualout" 401 82,sk "jump" 406 84,sk "iffalse" 411 85,sk "iftrue" 416 86,sk "andjump" 421 87,sk "orjump" 426 88,sk "step" 431 89,sk "line" 436 90,sk "store" 441 91,sk "choose" 446 92,sk "forbegin" 451 93,sk "fornext" 456 94,sk "round" 461 95,sk "raise" 466 96,sk "result" 471 97,sk "block" 476 98,sk "arm" 481 99,sk "endblock" 486 100,sk "pack" 491 102,sk "endpack" 496 103,sk "endsub" 501 104,sk "endbody" 506 105,sk "endaccept" 511 106,sk "endentry" 516 107,sk "enddecls" 521 108,sk "endvalue" 526 109,sk "refuse" 531 110,sk "sub" 536 111,sk "callp" 541 112,sk "dispatchp" 546 113,sk "begincell" 551 114,sk "initcell" 556 115,sk "firstcell" 561 116,sk "laysubtype" 566 117,sk "laytype" 571 118,sk "laysub" 576 120,sk "laybody" 581 121,sk "layprot" 586 122,sk "layplace" 591 123,sk "nowait" 596 124,sk "entrycall" 601 125,sk "trycall" 606 126,sk "accept" 611 127,sk "beginaccept" 616 128,sk "open" 621 129,sk "openaccept" 626 130,sk "opendelay" 631 131,sk "openend" 636 132,sk "select" 641 133,sk "delay" 646 134,sk "abort" 651 135,sk "requeue" 656 136]
noncomputable def T0(P:Params):BT:=sx .nil [(0,boot_o_0 P),(1,boot_o_1 P),(2,boot_o_2 P),(3,boot_o_3 P),(4,boot_o_4 P),(5,boot_o_5 P),(6,boot_o_6 P),(7,boot_o_7 P),(8,boot_o_8 P),(9,boot_o_9 P),(10,boot_o_10 P),(11,tu []),(12,{cls:=.none,data:=.fields #[]}),(13,co "<module>" "<module>" 182 1 0 0 11 false 12 185 [.none,.none,.none] 1 186),(14,{cls:=.type "frame",slots:=#[some (.ref 13),some (.ref 3),some (.ref 3),none,some (.str "__main__" 164),none,some (.ref 0)]})]
noncomputable def LT1(P:Params):List (Nat×Obj):=[(15,tu [.type "Exception"]),
 (16,{cls:=.type "builtin_function_or_method",data:=.fields #[.builtin "type.__prepare__",.type "type"]}),
 (17,di [en P "__module__" 196 (.str "adacore.errors" 187),en P "__qualname__" 198 (.str "AdaError" 197),en P "__firstlineno__" 200 (.int 2 199),en P "__init__" 208 (.ref 28),en P "__static_attributes__" 210 (.ref 29)] 5),
 (18,tu []),
 (19,{cls:=.none,data:=.fields #[.int 4 0,.int 4 0,.ref 27]}),
 (20,co "AdaError" "AdaError" 191 2 0 0 18 false 19 194 [.none,.none,.none] 2 195),
 (21,fr 20 17 "adacore.errors" 187),
 (22,tu []),
 (23,{cls:=.none,data:=.fields #[]}),
 (24,tu [.str "self" 204,.str "text" 205]),
 (25,tu []),
 (26,ME "AdaError.__init__" (nc fR[1]?) 0 .none .none .none),
 (27,co "__init__" "AdaError.__init__" 201 4 2 3 22 true 23 206 [.ref 24,.ref 25,.ref 26] 4 207),
 (28,ME "AdaError.__init__" (nc fR[1]?) 3 (.str "adacore.errors" 187) (.ref 27) iO),
 (29,tu [.str "text" 209]),
 (30,di [en P "__module__" 196 (.str "adacore.errors" 187),en P "__firstlineno__" 200 (.int 2 199),en P "__init__" 208 (.ref 28),en P "__static_attributes__" 210 (.ref 29),en P "__weakref__" 212 (.ref 32),en P "__doc__" 213 .none] 3),
 (31,{cls:=ql,data:=.cls {name:= "AdaError",bases:=[.type "Exception"],mro:=[.ref 31,.type "Exception",.type "BaseException",.type "object"],ns:=30,qualname:= "AdaError",subclasses:=[.ref 44]},slots:=#[some (.ref 15),none,some (.str "AdaError" 189),some (.str "AdaError" 197),some (.builtin "Exception.__new__"),some (.bool true)]}),
 (32,{cls:=.type "getset_descriptor",data:=.fields #[.str "__weakref__" 211,.ref 31,.builtin "ExceptionGroup.__weakref__",.none]}),
 (33,{cls:=.type "super",data:=.fields #[.ref 31,.ref 31,.ref 31]}),
 (34,{cls:=.type "builtin_function_or_method",data:=.fields #[.builtin "object.__init_subclass__",.ref 31]}),
 (35,tu [.ref 31]),
 (36,{cls:=.type "builtin_function_or_method",data:=.fields #[.builtin "type.__prepare__",.type "type"]}),
 (37,di [en P "__module__" 225 (.str "adacore.errors" 187),en P "__qualname__" 227 (.str "BadCode" 226),en P "__firstlineno__" 229 (.int 7 228),en P "__static_attributes__" 230 (.ref 42)] 4),
 (38,tu []),
 (39,{cls:=.none,data:=.fields #[]}),
 (40,co "BadCode" "BadCode" 220 7 0 0 38 false 39 223 [.none,.none,.none] 7 224),
 (41,fr 40 37 "adacore.errors" 187),
 (42,tu []),
 (43,di [en P "__module__" 225 (.str "adacore.errors" 187),en P "__firstlineno__" 229 (.int 7 228),en P "__static_attributes__" 230 (.ref 42),en P "__doc__" 231 .none] 2),
 (44,{cls:=ql,data:=.cls {name:= "BadCode",bases:=[.ref 31],mro:=[.ref 44,.ref 31,.type "Exception",.type "BaseException",.type "object"],ns:=43,qualname:= "BadCode" },slots:=#[some (.ref 35),none,some (.str "BadCode" 218),some (.str "BadCode" 226),some (.builtin "Exception.__new__"),some (.bool true)]}),
 (45,{cls:=.type "super",data:=.fields #[.ref 44,.ref 44,.ref 44]}),
 (46,{cls:=.type "builtin_function_or_method",data:=.fields #[.builtin "object.__init_subclass__",.ref 44]})]
noncomputable def T1(P:Params):BT:=sx ((((T0 P).set 2 fun _=>{cls:=.none,data:=.dict #[en P "type.__subclasses__.Exception.0" 214 (.int 31 0),en P "type.__subclasses__.Exception.n" 215 (.int 1 0)] 2}).set 3 fun _=>di [en P "__name__" 165 (.str "adacore.ops" 234),en P "__doc__" 166 .none,en P "__package__" 167 .none,en P "__loader__" 168 (.builtin "__main__.__loader__#opaque"),en P "__spec__" 169 .none,en P "__annotations__" 170 (.ref 6),en P "__builtins__" 171 (.ref 4),en P "__file__" 173 (.str "/claim/cut.py" 172),en P "__cached__" 174 .none,en P "AdaError" 217 (.ref 31),en P "BadCode" 233 (.ref 44)] 11).set 12 fun _=>{cls:=.none,data:=.fields #[.int 2 0,.int 0 0,.ref 20,.int 7 0,.int 0 0,.ref 40]}) (LT1 P)
noncomputable def LT2(P:Params):List (Nat×Obj):=[(47,di (Hh P WN) 85),
 (48,tu [.int 0 237,.int 1 238,.str "-" 239]),
 (49,tu [.int 0 242,.int 1 243,.str "--" 244]),
 (50,tu [.int 0 247,.int 1 248,.str "-" 249]),
 (51,tu [.int 1 252,.int 1 253,.str "-" 254]),
 (52,tu [.int 1 257,.int 1 258,.str "n" 259]),
 (53,tu [.int 3 262,.int 1 263,.str "" 264]),
 (54,tu [.int 1 267,.int 1 268,.str "" 269]),
 (55,tu [.int 0 272,.int 1 273,.str "---n" 274]),
 (56,tu [.int 1 277,.int 1 278,.str "--" 279]),
 (57,tu [.int 1 282,.int 1 283,.str "-" 284]),
 (58,tu [.int 1 287,.int 1 288,.str "--" 289]),
 (59,tu [.int 1 292,.int 1 293,.str "--n" 294]),
 (60,tu [.int 0 297,.int 1 298,.str "--n" 299]),
 (61,tu [.int 1 302,.int 1 303,.str "" 304]),
 (62,tu [.int 0 307,.int 1 308,.str "-" 309]),
 (63,tu [.int 1 312,.int 1 313,.str "" 314]),
 (64,tu [.int 2 317,.int 1 318,.str "" 319]),
 (65,di (Hh P [sk "copy" 321 66,sk "arrayof" 326 67,sk "recordof" 331 68,sk "extendof" 336 69,sk "callf" 341 70,sk "dispatchf" 346 71,sk "protcall" 351 72,sk "place" 356 73,sk "placecomp" 361 74,sk "placeindex" 366 75,sk "placeslice" 371 76,sk "placederef" 376 77,sk "placevalue" 381 78,sk "target" 386 79,sk "drop" 391 80,sk "actual" 396 81,sk "actualout" 401 82]) 17),
 (66,tu [.int 1 322,.int 1 323,.str "" 324]),
 (67,tu [.int 0 327,.int 1 328,.str "---" 329]),
 (68,tu [.int 0 332,.int 1 333,.str "--n" 334]),
 (69,tu [.int 1 337,.int 1 338,.str "--n" 339]),
 (70,tu [.int 0 342,.int 1 343,.str "--n" 344]),
 (71,tu [.int 0 347,.int 1 348,.str "--n" 349]),
 (72,tu [.int 1 352,.int 1 353,.str "-n" 354]),
 (73,tu [.int 0 357,.int 1 358,.str "--" 359]),
 (74,tu [.int 1 362,.int 1 363,.str "-" 364]),
 (75,tu [.int 1 367,.int 1 368,.str "n" 369]),
 (76,tu [.int 3 372,.int 1 373,.str "" 374]),
 (77,tu [.int 1 377,.int 1 378,.str "" 379]),
 (78,tu [.int 1 382,.int 1 383,.str "" 384]),
 (79,tu [.int 1 387,.int 1 388,.str "-" 389]),
 (80,tu [.int 1 392,.int 0 393,.str "" 394]),
 (81,tu [.int 1 397,.int 1 398,.str "" 399]),
 (82,tu [.int 1 402,.int 1 403,.str "" 404]),
 (83,di (Hh P [sk "jump" 406 84,sk "iffalse" 411 85,sk "iftrue" 416 86,sk "andjump" 421 87,sk "orjump" 426 88,sk "step" 431 89,sk "line" 436 90,sk "store" 441 91,sk "choose" 446 92,sk "forbegin" 451 93,sk "fornext" 456 94,sk "round" 461 95,sk "raise" 466 96,sk "result" 471 97,sk "block" 476 98,sk "arm" 481 99,sk "endblock" 486 100]) 17),
 (84,tu [.int 0 407,.int 0 408,.str "j" 409]),
 (85,tu [.int 1 412,.int 0 413,.str "j" 414]),
 (86,tu [.int 1 417,.int 0 418,.str "j" 419]),
 (87,tu [.int 1 422,.int 0 423,.str "j" 424]),
 (88,tu [.int 1 427,.int 0 428,.str "j" 429]),
 (89,tu [.int 0 432,.int 0 433,.str "-" 434]),
 (90,tu [.int 0 437,.int 0 438,.str "-" 439]),
 (91,tu [.int 2 442,.int 0 443,.str "" 444]),
 (92,tu [.int 1 447,.int 0 448,.str "-J" 449]),
 (93,tu [.int 2 452,.int 1 453,.str "--j" 454]),
 (94,tu [.int 1 457,.int 0 458,.str "--j" 459]),
 (95,tu [.int 0 462,.int 0 463,.str "-" 464]),
 (96,tu [.int 0 467,.int 0 468,.str "-" 469]),
 (97,tu [.int 1 472,.int 0 473,.str "" 474]),
 (98,tu [.int 0 477,.int 0 478,.str "-" 479]),
 (99,tu [.int 0 482,.int 0 483,.str "-J" 484]),
 (100,tu [.int 0 487,.int 0 488,.str "" 489]),
 (101,di (Hh P [sk "pack" 491 102,sk "endpack" 496 103,sk "endsub" 501 104,sk "endbody" 506 105,sk "endaccept" 511 106,sk "endentry" 516 107,sk "enddecls" 521 108,sk "endvalue" 526 109,sk "refuse" 531 110,sk "sub" 536 111,sk "callp" 541 112,sk "dispatchp" 546 113,sk "begincell" 551 114,sk "initcell" 556 115,sk "firstcell" 561 116,sk "laysubtype" 566 117,sk "laytype" 571 118]) 17),
 (102,tu [.int 0 492,.int 0 493,.str "" 494]),
 (103,tu [.int 0 497,.int 0 498,.str "" 499]),
 (104,tu [.int 0 502,.int 0 503,.str "" 504]),
 (105,tu [.int 0 507,.int 0 508,.str "" 509]),
 (106,tu [.int 0 512,.int 0 513,.str "" 514]),
 (107,tu [.int 0 517,.int 0 518,.str "" 519]),
 (108,tu [.int 0 522,.int 0 523,.str "" 524]),
 (109,tu [.int 1 527,.int 0 528,.str "" 529]),
 (110,tu [.int 0 532,.int 1 533,.str "-" 534]),
 (111,tu [.int 0 537,.int 1 538,.str "--" 539]),
 (112,tu [.int 1 542,.int 0 543,.str "n" 544]),
 (113,tu [.int 0 547,.int 0 548,.str "--n" 549]),
 (114,tu [.int 0 552,.int 1 553,.str "-" 554]),
 (115,tu [.int 2 557,.int 0 558,.str "-" 559]),
 (116,tu [.int 1 562,.int 0 563,.str "-" 564]),
 (117,tu [.int 0 567,.int 0 568,.str "--" 569]),
 (118,tu [.int 0 572,.int 0 573,.str "-" 574]),
 (119,di (Hh P [sk "laysub" 576 120,sk "laybody" 581 121,sk "layprot" 586 122,sk "layplace" 591 123,sk "nowait" 596 124,sk "entrycall" 601 125,sk "trycall" 606 126,sk "accept" 611 127,sk "beginaccept" 616 128,sk "open" 621 129,sk "openaccept" 626 130,sk "opendelay" 631 131,sk "openend" 636 132,sk "select" 641 133,sk "delay" 646 134,sk "abort" 651 135,sk "requeue" 656 136]) 17),
 (120,tu [.int 0 577,.int 0 578,.str "-" 579]),
 (121,tu [.int 0 582,.int 0 583,.str "--" 584]),
 (122,tu [.int 0 587,.int 0 588,.str "--" 589]),
 (123,tu [.int 1 592,.int 0 593,.str "-" 594]),
 (124,tu [.int 0 597,.int 0 598,.str "" 599]),
 (125,tu [.int 1 602,.int 0 603,.str "-nn" 604]),
 (126,tu [.int 1 607,.int 0 608,.str "-nnwj" 609]),
 (127,tu [.int 0 612,.int 0 613,.str "-n-" 614]),
 (128,tu [.int 0 617,.int 0 618,.str "-" 619]),
 (129,tu [.int 0 622,.int 1 623,.str "" 624]),
 (130,tu [.int 1 627,.int 1 628,.str "--n" 629]),
 (131,tu [.int 2 632,.int 1 633,.str "--" 634]),
 (132,tu [.int 1 637,.int 1 638,.str "-" 639]),
 (133,tu [.int 1 642,.int 0 643,.str "-Jj" 644]),
 (134,tu [.int 1 647,.int 0 648,.str "-" 649]),
 (135,tu [.int 1 652,.int 0 653,.str "" 654]),
 (136,tu [.int 0 657,.int 0 658,.str "-nn-" 659])]
noncomputable def T2(P:Params):BT:=sx ((T1 P).set 3 fun _=>di [en P "__name__" 165 (.str "adacore.ops" 234),en P "__doc__" 166 .none,en P "__package__" 167 .none,en P "__loader__" 168 (.builtin "__main__.__loader__#opaque"),en P "__spec__" 169 .none,en P "__annotations__" 170 (.ref 6),en P "__builtins__" 171 (.ref 4),en P "__file__" 173 (.str "/claim/cut.py" 172),en P "__cached__" 174 .none,en P "AdaError" 217 (.ref 31),en P "BadCode" 233 (.ref 44),en P "SHAPES" 661 (.ref 47)] 12) (LT2 P)
noncomputable abbrev MU:String:= "special-get-raises"
noncomputable abbrev uh:Option Value:=some (.ref 6)
noncomputable abbrev B0:List Frame:=[topFrame default]
noncomputable abbrev p1:Pos:=⟨9,0,9,8⟩
noncomputable abbrev p2:Pos:=⟨10,0,10,6⟩
noncomputable abbrev p3:Pos:=⟨609,0,622,87⟩
noncomputable abbrev S0(w:World)(os:OsState):SharedT:=⟨T0 w.params,15,{},#[],boot_drawn,187,os⟩
noncomputable abbrev S1(w:World)(os:OsState):SharedT:=⟨T1 w.params,47,{},#[],boot_drawn,236,os⟩
noncomputable abbrev S2(w:World)(os:OsState):SharedT:=⟨T2 w.params,137,{},#[],boot_drawn,662,os⟩
end
section
set_option maxRecDepth 100000
theorem XA:∀(w:World) (os:OsState),topGo treeTable pw w 11 uh 12 ⟨boot_heap w.params,#[],boot_drawn,boot_toks,os⟩ (topStub pw)=some ((S0 w os).abs,⟨denote treeTable kb,kb,default,B0⟩):=fun w os=>by kernel_rfl
theorem XB:∀(w:World) (os:OsState),segRunT treeTable pw w 11 uh 1 500 (S0 w os) (piecesOf (fR.take 4) zd kb default B0)=some (.next,S1 w os,kb,p1):=fun w os=>by kernel_rfl
end
section
set_option maxRecDepth 100000
theorem TA:∀(w:World) (os:OsState),segRunT treeTable pw (w.withFollow MU false) 11 uh 1 2100 (S1 w os) (piecesOf ((fR.drop 4).take 1) zd kb p1 B0)=some (.next,S2 w os,kb,p2):=fun w os=>by kernel_rfl
theorem TB:∀(w:World) (os:OsState),segRunT treeTable pw (w.withFollow MU true) 11 uh 1 2100 (S1 w os) (piecesOf ((fR.drop 4).take 1) zd kb p1 B0)=some (.next,S2 w os,kb,p2):=fun w os=>by kernel_rfl
end
section
set_option maxRecDepth 100000
noncomputable def WO:Nat->List Str->List Value
 |_,[]=>[]
 |t,s::l=>.str s t::WO (t+1) l
noncomputable def df7(b:Nat)(s:List Stmt)(n q:Str)(t l a:Nat)(m:Str×Nat)(v:List Str):List (Nat×Obj):=
 [(b,tu []),(b+1,{cls:=.none,data:=.fields #[]}),(b+2,tu (WO (t+3) v)),(b+3,tu []),(b+4,ME q s 0 .none .none .none),(b+5,co n q t l a 3 b true (b+1) (t+3+v.length) [.ref (b+2),.ref (b+3),.ref (b+4)] l (t+4+v.length)),(b+6,ME q s 3 (.str m.1 m.2) (.ref (b+5)) iO)]
noncomputable def dg(b i:Nat)(n:Str):=df7 b (fR.drop i) n n
noncomputable def O0(b i:Nat)(n:Str)(t l a:Nat)(m:Str×Nat):List (Nat×Obj):=
 [(b,tu []),(b+1,{cls:=.none,data:=.fields #[]}),(b+2,ME n (fR.drop i) 0 .none .none .none),(b+3,co n n t l a 3 b true (b+1) (t+3) [.none,.none,.ref (b+2)] l (t+4)),(b+4,ME n (fR.drop i) 3 (.str m.1 m.2) (.ref (b+3)) iO)]
noncomputable def WQ(P:Params)(b i:Nat)(c:Str)(t l a:Nat)(m:Str×Nat)(v w:List Str):List (Nat×Obj):=
 let te:=t+14+v.length
 let tz:=te+2+w.length
 [(b,tu []),(b+1,{cls:=.type "builtin_function_or_method",data:=.fields #[.builtin "type.__prepare__",.type "type"]}),
 (b+2,di [en P "__module__" (t+5) (.str m.1 m.2),en P "__qualname__" (t+7) (.str c (t+6)),en P "__firstlineno__" (t+9) (.int l (t+8)),en P "__init__" (te+1) (.ref (b+13)),en P "__static_attributes__" tz (.ref (b+14))] 5),
 (b+3,tu []),(b+4,{cls:=.none,data:=.fields #[.int (l+2:Nat) 0,.int 4 0,.ref (b+12)]}),(b+5,co c c t l 0 0 (b+3) false (b+4) (t+3) [.none,.none,.none] l (t+4)),(b+6,fr (b+5) (b+2) m.1 m.2)]++df7 (b+7) (nc fR[i]?) "__init__" (c++ ".__init__") (t+10) (l+2) a m v++
 [(b+14,tu (WO (te+2) w)),
 (b+15,di [en P "__module__" (t+5) (.str m.1 m.2),en P "__firstlineno__" (t+9) (.int l (t+8)),en P "__init__" (te+1) (.ref (b+13)),en P "__static_attributes__" tz (.ref (b+14)),en P "__dict__" (tz+2) (.ref (b+17)),en P "__weakref__" (tz+4) (.ref (b+18)),en P "__doc__" (tz+5) .none] 4),
 (b+16,{cls:=ql,data:=.cls {name:=c,bases:=[.type "object"],mro:=[.ref (b+16),.type "object"],ns:=b+15,qualname:=c},slots:=#[none,none,some (.str c (t-2)),some (.str c (t+6)),some (.builtin "object.__new__"),some (.bool true)]}),
 (b+17,{cls:=.type "getset_descriptor",data:=.fields #[.str "__dict__" (tz+1),.ref (b+16),.builtin "function.__dict__",.builtin "function.__dict__#set"]}),
 (b+18,{cls:=.type "getset_descriptor",data:=.fields #[.str "__weakref__" (tz+3),.ref (b+16),.builtin "ExceptionGroup.__weakref__",.none]}),
 (b+19,{cls:=.type "super",data:=.fields #[.ref (b+16),.ref (b+16),.ref (b+16)]}),
 (b+20,{cls:=.type "builtin_function_or_method",data:=.fields #[.builtin "object.__init_subclass__",.ref (b+16)]})]
noncomputable abbrev m0:Str×Nat:=("adacore.ops",234)
noncomputable abbrev m1:Str×Nat:=("adacore.gen",757)
noncomputable abbrev m2:Str×Nat:=("adacore.gencall",931)
noncomputable abbrev m3:Str×Nat:=("adacore.genstmt",953)
noncomputable abbrev m4:Str×Nat:=("adacore.gentask",1069)
noncomputable def LT3(P:Params):List (Nat×Obj):=[(137,tu (WO 662 ["jump", "choose", "raise", "endsub", "endbody", "endentry", "enddecls", "endvalue", "refuse", "select"]))]++
 WQ P 138 6 "Code" 675 12 4 m0 ["self", "rows", "source", "codes"] ["barrier", "codes", "operations", "rows", "source"]++
 dg 159 7 "shape_of" 708 20 1 m0 ["row", "shape"]++
 dg 166 8 "effect_of" 716 27 1 m0 ["row", "taken", "left", "parts", "at"]++
 dg 173 9 "jumps_of" 727 35 1 m0 ["row", "parts", "found", "at"]++
 dg 180 10 "with_jumps" 737 44 2 m0 ["row", "places", "parts", "made", "used", "at", "count"]++
 dg 187 11 "goes_on" 750 59 1 m0 ["row"]++
 WQ P 194 13 "Gen" 761 62 2 m1 ["self", "tables"] ["accepts", "blocks", "codes", "ended", "height", "loops", "marks", "rows", "tables"]++
 WQ P 215 14 "OpenPart" 798 74 3 m1 ["self", "gen", "label"] ["blocks", "height", "label", "mark"]++
 dg 236 15 "lay" 829 81 2 m1 ["gen", "row", "taken", "left"]++
 dg 243 16 "new_mark" 839 85 1 m1 ["gen"]++
 dg 250 17 "put_mark" 846 88 3 m1 ["gen", "mark", "height"]++
 O0 257 18 "placed_rows" 855 91 1 m1++
 dg 262 19 "value_code" 861 93 2 m1 ["gen", "node", "nodes"]++
 dg 269 20 "place_code" 870 99 2 m1 ["gen", "node", "places"]++
 dg 276 21 "target_code" 879 106 2 m1 ["gen", "node"]++
 dg 283 22 "statement_code" 887 109 2 m1 ["gen", "stmt"]++
 dg 290 23 "statements_code" 895 112 2 m1 ["gen", "stmts", "stmt"]++
 dg 297 24 "declarations_code" 904 115 2 m1 ["gen", "decls", "decl"]++
 dg 304 25 "blocks_left" 913 119 3 m1 ["gen", "blocks", "height", "before", "open_now", "turn"]++
 O0 311 26 "handled_code" 925 126 6 m1++
 dg 316 28 "actuals_code" 933 143 2 m2 ["gen", "args", "mode", "node"]++
 dg 323 29 "whole_code" 943 151 3 m2 ["tables", "body", "end", "gen"]++
 dg 330 31 "stmt_null" 955 156 2 m3 ["gen", "stmt"]++
 dg 337 32 "stmt_assign" 963 158 2 m3 ["gen", "stmt"]++
 dg 344 33 "stmt_if" 971 162 2 m3 ["gen", "stmt", "out", "height", "condition", "stmts", "other"]++
 O0 351 34 "stmt_case" 984 174 2 m3++
 dg 356 35 "stmt_loop" 990 185 2 m3 ["gen", "stmt", "word", "line", "label", "scheme", "stmts", "loop", "top"]++
 dg 363 36 "loop_named" 1005 209 2 m3 ["gen", "label", "loop"]++
 dg 370 37 "stmt_exit" 1014 214 2 m3 ["gen", "stmt", "behind", "height", "loop"]++
 dg 377 38 "stmt_block" 1025 224 2 m3 ["gen", "stmt", "word", "line", "label", "decls", "stmts", "handlers"]++
 dg 384 39 "stmt_raise" 1039 230 2 m3 ["gen", "stmt"]++
 dg 391 40 "leave_code" 1047 232 1 m3 ["gen", "part"]++
 dg 398 41 "stmt_return" 1055 240 2 m3 ["gen", "stmt"]++
 dg 405 42 "plain_gens" 1063 245 0 m3 []++
 dg 412 44 "family_code" 1071 248 2 m4 ["gen", "family"]++
 dg 419 45 "call_code" 1079 253 2 m4 ["gen", "stmt", "word", "line", "prefix", "entry", "family", "args", "has_family"]
noncomputable def XC(P:Params):List DictEntry:=[en P "__doc__" 166 .none,en P "__package__" 167 .none,en P "__loader__" 168 (.builtin "__main__.__loader__#opaque"),en P "__spec__" 169 .none,en P "__annotations__" 170 (.ref 6),en P "__builtins__" 171 (.ref 4),en P "__file__" 173 (.str "/claim/cut.py" 172),en P "__cached__" 174 .none]
noncomputable def E3:List (Str×Nat×Nat):=[sk "AdaError" 217 31,sk "BadCode" 233 44,sk "SHAPES" 661 47,sk "LEAVING" 672 137,sk "Code" 707 154,sk "shape_of" 715 165,sk "effect_of" 726 172,sk "jumps_of" 736 179,sk "with_jumps" 749 186,sk "goes_on" 756 193,sk "Gen" 795 210,sk "OpenPart" 828 231,sk "lay" 838 242,sk "new_mark" 845 249,sk "put_mark" 854 256,sk "placed_rows" 860 261,sk "value_code" 869 268,sk "place_code" 878 275,sk "target_code" 886 282,sk "statement_code" 894 289,sk "statements_code" 903 296,sk "declarations_code" 912 303,sk "blocks_left" 924 310,sk "handled_code" 930 315,sk "actuals_code" 942 322,sk "whole_code" 952 329,sk "stmt_null" 962 336,sk "stmt_assign" 970 343,sk "stmt_if" 983 350,sk "stmt_case" 989 355,sk "stmt_loop" 1004 362,sk "loop_named" 1013 369,sk "stmt_exit" 1024 376,sk "stmt_block" 1038 383,sk "stmt_raise" 1046 390,sk "leave_code" 1054 397,sk "stmt_return" 1062 404,sk "plain_gens" 1068 411,sk "family_code" 1078 418,sk "call_code" 1093 425]
noncomputable def lnr(l:List (Nat×Nat)):List Value:=l.flatMap fun x=>[.int x.1 0,.int 0 0,.ref x.2]
noncomputable def N3:List (Nat×Nat):=[(2,20),(7,40),(12,143),(20,164),(27,171),(35,178),(44,185),(59,192),(62,199),(74,220),(81,241),(85,248),(88,255),(91,260),(93,267),(99,274),(106,281),(109,288),(112,295),(115,302),(119,309),(126,314),(143,321),(151,328),(156,335),(158,342),(162,349),(174,354),(185,361),(209,368),(214,375),(224,382),(230,389),(232,396),(240,403),(245,410),(248,417),(253,424)]
noncomputable def md(P:Params)(n:Str)(t:Nat)(e:List (Str×Nat×Nat))(k:Nat)(l:List (Nat×Nat))(T:BT):BT:=(T.set 3 fun _=>di (en P "__name__" 165 (.str n t)::(XC P++Hh P e)) k).set 12 fun _=>{cls:=.none,data:=.fields ⟨lnr l⟩}
noncomputable def T3(P:Params):BT:=sx (md P "adacore.gentask" 1069 E3 49 N3 (T2 P)) (LT3 P)
noncomputable abbrev m5:Str×Nat:=("adacore.bodies",1213)
noncomputable abbrev m6:Str×Nat:=("adacore.genexpr",1249)
noncomputable abbrev m7:Str×Nat:=("law_pb0037_01",1384)
noncomputable def LT4(P:Params):List (Nat×Obj):=dg 426 46 "stmt_entrycall" 1094 259 2 m4 ["gen", "stmt", "has_family", "count"]++
 dg 433 47 "accepted_code" 1104 262 2 m4 ["gen", "stmts", "part"]++
 dg 440 48 "stmt_accept" 1113 269 2 m4 ["gen", "stmt", "word", "line", "entry", "family", "formals", "stmts"]++
 dg 447 49 "stmt_requeue" 1127 274 2 m4 ["gen", "stmt", "word", "line", "prefix", "entry", "family", "with_abort", "has_prefix"]++
 dg 454 50 "alternative_code" 1142 282 3 m4 ["gen", "at", "alternative", "guard", "kind", "data", "stmts", "closed", "height"]++
 O0 461 51 "select_accepts" 1157 297 2 m4++
 dg 466 52 "select_call" 1163 317 2 m4 ["gen", "stmt", "word", "line", "alternatives", "other", "otherwise", "out", "how", "late", "has_family", "count", "height"]++
 dg 473 53 "stmt_select" 1182 333 2 m4 ["gen", "stmt"]++
 dg 480 54 "stmt_delay" 1190 339 2 m4 ["gen", "stmt"]++
 dg 487 55 "stmt_abort" 1198 343 2 m4 ["gen", "stmt", "node"]++
 dg 494 56 "task_gens" 1207 347 0 m4 []++
 WQ P 501 58 "TaskBody" 1217 350 2 m5 ["self", "name"] ["decls", "entries", "handlers", "is_type", "name", "stmts"]++
 dg 522 60 "values_code" 1251 360 2 m6 ["gen", "nodes", "node"]++
 dg 529 61 "gen_lit" 1260 363 2 m6 ["gen", "node"]++
 dg 536 62 "gen_null" 1268 365 2 m6 ["gen", "node"]++
 dg 543 63 "gen_obj" 1276 367 2 m6 ["gen", "node"]++
 dg 550 64 "gen_disc" 1284 369 2 m6 ["gen", "node"]++
 dg 557 65 "gen_comp" 1292 371 2 m6 ["gen", "node"]++
 dg 564 66 "gen_index" 1300 374 2 m6 ["gen", "node"]++
 dg 571 67 "gen_slice" 1308 378 2 m6 ["gen", "node"]++
 dg 578 68 "gen_deref" 1316 381 2 m6 ["gen", "node"]++
 dg 585 69 "name_gens" 1324 384 0 m6 []++
 dg 592 70 "place_obj" 1330 386 2 m6 ["gen", "node"]++
 dg 599 71 "place_comp" 1338 388 2 m6 ["gen", "node"]++
 dg 606 72 "place_index" 1346 391 2 m6 ["gen", "node"]++
 dg 613 73 "place_slice" 1354 395 2 m6 ["gen", "node"]++
 dg 620 74 "place_deref" 1362 399 2 m6 ["gen", "node"]++
 dg 627 75 "place_within" 1370 402 2 m6 ["gen", "node"]++
 dg 634 76 "place_gens" 1378 404 0 m6 []++
 dg 641 78 "_law_pick" 1386 407 2 m7 ["deck", "many"]++
 dg 648 79 "_law_thing" 1394 412 1 m7 ["deck"]++
 dg 655 80 "_law_family" 1401 414 1 m7 ["deck"]++
 O0 662 81 "_law_call" 1408 416 2 m7++
 dg 667 82 "_law_accept" 1414 419 3 m7 ["deck", "line", "deep"]++
 dg 674 83 "_law_guard" 1423 421 1 m7 ["deck"]++
 dg 681 84 "_law_select" 1430 423 4 m7 ["deck", "line", "deep", "is_served", "call", "late", "found", "_", "kind", "data"]++
 dg 688 85 "_law_some" 1446 440 3 m7 ["deck", "deep", "is_served", "found", "_"]++
 O0 695 86 "_law_one" 1457 447 4 m7++
 dg 700 87 "_law_mark" 1463 467 2 m7 ["book", "text"]++
 dg 707 88 "_law_reply" 1471 470 2 m7 ["book", "many"]++
 dg 714 89 "_law_row" 1479 473 3 m7 ["book", "row", "stack", "word", "rows", "counts", "count", "taken", "parts", "text"]++
 dg 721 90 "_law_open_row" 1495 505 3 m7 ["book", "row", "stack", "needs"]++
 dg 728 91 "_law_played" 1505 511 2 m7 ["book", "rows", "stack", "at", "goal"]++
 dg 735 92 "_law_says" 1516 520 1 m7 ["node"]++
 dg 742 93 "_law_actuals" 1523 522 2 m7 ["book", "pairs", "found", "mode", "node", "target"]++
 dg 749 94 "_law_walk_call" 1535 531 4 m7 ["book", "stmt", "ahead", "how", "family", "taken", "parts"]++
 dg 756 95 "_law_walk_select" 1548 536 2 m7 ["book", "stmt", "word", "line", "alternatives", "other", "late", "how", "rows", "at", "guard", "kind", "data", "stmts", "family"]++
 dg 763 96 "_law_walk" 1569 568 2 m7 ["book", "stmts", "stmt", "way"]++
 O0 770 97 "_law_walk_one" 1579 575 2 m7++
 O0 775 98 "law" 1585 609 1 m7
noncomputable def T4(P:Params):BT:=sx (md P "law_pb0037_01" 1384 (E3++[sk "stmt_entrycall" 1103 432,sk "accepted_code" 1112 439,sk "stmt_accept" 1126 446,sk "stmt_requeue" 1141 453,sk "alternative_code" 1156 460,sk "select_accepts" 1162 465,sk "select_call" 1181 472,sk "stmt_select" 1189 479,sk "stmt_delay" 1197 486,sk "stmt_abort" 1206 493,sk "task_gens" 1212 500,sk "TaskBody" 1248 517,sk "values_code" 1259 528,sk "gen_lit" 1267 535,sk "gen_null" 1275 542,sk "gen_obj" 1283 549,sk "gen_disc" 1291 556,sk "gen_comp" 1299 563,sk "gen_index" 1307 570,sk "gen_slice" 1315 577,sk "gen_deref" 1323 584,sk "name_gens" 1329 591,sk "place_obj" 1337 598,sk "place_comp" 1345 605,sk "place_index" 1353 612,sk "place_slice" 1361 619,sk "place_deref" 1369 626,sk "place_within" 1377 633,sk "place_gens" 1383 640,sk "_law_pick" 1393 647,sk "_law_thing" 1400 654,sk "_law_family" 1407 661,sk "_law_call" 1413 666,sk "_law_accept" 1422 673,sk "_law_guard" 1429 680,sk "_law_select" 1445 687,sk "_law_some" 1456 694,sk "_law_one" 1462 699,sk "_law_mark" 1470 706,sk "_law_reply" 1478 713,sk "_law_row" 1494 720,sk "_law_open_row" 1504 727,sk "_law_played" 1515 734,sk "_law_says" 1522 741,sk "_law_actuals" 1534 748,sk "_law_walk_call" 1547 755,sk "_law_walk_select" 1568 762,sk "_law_walk" 1578 769,sk "_law_walk_one" 1584 774,sk "law" 1590 779]) 99 (N3++[(259,431),(262,438),(269,445),(274,452),(282,459),(297,464),(317,471),(333,478),(339,485),(343,492),(347,499),(350,506),(360,527),(363,534),(365,541),(367,548),(369,555),(371,562),(374,569),(378,576),(381,583),(384,590),(386,597),(388,604),(391,611),(395,618),(399,625),(402,632),(404,639),(407,646),(412,653),(414,660),(416,665),(419,672),(421,679),(423,686),(440,693),(447,698),(467,705),(470,712),(473,719),(505,726),(511,733),(520,740),(522,747),(531,754),(536,761),(568,768),(575,773),(609,778)]) (T3 P)) (LT4 P)
noncomputable abbrev S4(w:World)(os:OsState):SharedT:=⟨T4 w.params,780,{},#[],boot_drawn,1591,os⟩
noncomputable abbrev p4:Pos:=⟨253,0,258,34⟩
noncomputable abbrev S3(w:World)(os:OsState):SharedT:=⟨T3 w.params,426,{},#[],boot_drawn,1094,os⟩
theorem TC:∀(w:World) (os:OsState),segRunT treeTable pw w 11 uh 1 2000 (S2 w os) (piecesOf ((fR.drop 5).take 41) zd kb p2 B0)=some (.next,S3 w os,kb,p4):=fun w os=>by kernel_rfl
end
end jD
namespace jD
open PySem
section
set_option genCtorIdx false
noncomputable abbrev D:=PyData
set_option genCtorIdx true in
inductive ag where
 |d (x:D)
 |fn (f:Nat)
 |ob (k:Nat) (l:List (Str×D))
 |b (i:Nat)
 |t (i:Nat)
 |g
set_option genCtorIdx true in
inductive aL where
 |list (c:List ag) (r:List D)
 |dict (l:List (Str×ag))
 |inst (k:Nat) (l:List (Str×ag))
 |yu (x:D)
structure St where
 base:List (Option aL)
 temps:List aL
 gen:Nat
noncomputable abbrev ak:=List (Str×ag)
noncomputable def Qf:List Nat->List Nat->Bool
 |[],[]=>true
 |x::xs,y::ys=>match Nat.beq x y with
  |true=>Qf xs ys
  |false=>false
 |[],_::_=>false
 |_::_,[]=>false
noncomputable def fb(x y:Str):Bool:=Qf x.cps.toList y.cps.toList
noncomputable def dF{α:Type}(x:Str):List (Str×α)->Option α
 |[]=>none
 |p::l=>match fb p.1 x with
  |true=>some p.2
  |false=>dF x l
noncomputable def jb{α:Type}(x:Str)(v:α):List (Str×α)->List (Str×α)
 |[]=>[(x,v)]
 |p::l=>match fb p.1 x with
  |true=>(p.1,v)::l
  |false=>p::jb x v l
set_option genCtorIdx true in
inductive Op where
 |add|sub|mul|fdiv|mod|pow
set_option genCtorIdx true in
inductive CO where
 |eq|ne|lt|gt|is|nW|isin|yv
inductive Place where
 |fz|Be|base (l:List Nat)
inductive E where
 |c (x:D)
 |neg (i:Nat)
 |var (x:Str)
 |ph (f:Nat)
 |O1 (g:Nat)
 |attr (o:E) (a:Str)
 |sub (o i:E)
 |DT (o:E) (lo hi:Option E)
 |Bn (o:E) (n:E)
 |bin (op:Op) (l r:E)
 |cmp (op:CO) (l r:E)
 |cx (l r:E)
 |Bf (l r:E)
 |ite (c t e:E)
 |tup (l:List E)
 |lst (p:Place) (l:List E)
 |Hi (p:Place) (ks:List Str) (l:List E)
 |call (f:Nat) (l:List E)
 |tH (e:E) (l:List E)
 |new (k:Nat) (slot:Nat) (l:List E)
 |gP (e:E)
 |len (e:E)
 |su (e:E)
 |str (e:E)
 |sy (e:E)
 |pj (e:E)
 |append (o x:E)
 |extend (o x:E)
 |pop (o:E)
 |update (o x:E)
 |get (o k d:E)
 |comp (elt:E) (tg:Str) (it:E) (cond:Option E) (fv:List Str)
inductive Tg where
 |x (x:Str)
 |attr (o:E) (a:Str)
 |sub (o i:E)
 |cut (o n:E)
 |tup (l:List Str)
 |atts (l:List (E×Str))
inductive T where
 |expr (e:E)
 |pass
 |cont
 |ret (e:Option E)
 |asg (t:Tg) (e:E)
 |MF (xs:List Str) (e:E)
 |aug (x:Str) (op:Op) (e:E)
 |DU (o:E) (a:Str) (op:Op) (e:E)
 |fM (c:E) (a b:List T)
 |Qg (c:E) (b:List T)
 |gQ (tg:List Str) (it:E) (b:List T)
 |no
set_option genCtorIdx true in
inductive Fl where
 |next|cont|ret (v:ag)
noncomputable abbrev KV:=ag->St->Prop
noncomputable abbrev Ev:=E->ak->St->KV->Prop
noncomputable abbrev Cl:=Nat->List ag->St->KV->Prop
noncomputable def Bg(i:Nat):Bool:=match i with
 |8=>true
 |15=>true
 |_=>false
noncomputable def kz:ag->Bool
 |.b i=>Bg i
 |_=>false
noncomputable def iP:ak->Bool
 |[]=>false
 |p::l=>kz p.2||iP l
noncomputable def lh(i:Nat):ag->Bool
 |.b j=> !Nat.beq i j
 |_=>true
noncomputable def kR(i:Nat):List ag->Bool
 |[]=>true
 |v::l=>lh i v&&kR i l
noncomputable def j1(i:Nat):List (Str×ag)->Bool
 |[]=>true
 |p::l=>lh i p.2&&j1 i l
noncomputable def u6(i:Nat):aL->Bool
 |.list c _=>kR i c
 |.dict l=>j1 i l
 |.inst _ l=>j1 i l
 |.yu _=>true
noncomputable def lZ(i:Nat):List (Option aL)->Bool
 |[]=>true
 |none::l=>lZ i l
 |some o::l=>u6 i o&&lZ i l
noncomputable def ke:ag->Bool
 |.t _=>false
 |_=>true
noncomputable def jf:List ag->Bool
 |[]=>true
 |v::l=>ke v&&jf l
noncomputable def kJ:List (Str×ag)->Bool
 |[]=>true
 |p::l=>ke p.2&&kJ l
noncomputable def DV:aL->Bool
 |.list c _=>jf c
 |.dict l=>kJ l
 |.inst _ l=>kJ l
 |.yu _=>false
noncomputable def xK(v:ag)(σ aF:St)(P:Prop):Prop:=match kz v with
 |true=>aF.gen=σ.gen/\P
 |false=>P
noncomputable def pR(ê:ak)(σ aF:St)(P:Prop):Prop:=match iP ê with
 |true=>aF.gen=σ.gen/\P
 |false=>P
noncomputable def aq{α:Type}:List α->Nat->Option α
 |[],_=>none
 |x::_,0=>some x
 |_::l,n+1=>aq l n
noncomputable def setAt{α:Type}:List α->Nat->α->List α
 |[],_,_=>[]
 |_::l,0,y=>y::l
 |x::l,n+1,y=>x::setAt l n y
noncomputable def St.n4(σ:St)(i:Nat):Option aL:=match aq σ.base i with
 |some (some o)=>some o
 |_=>none
noncomputable def St.lj(σ:St)(i:Nat)(o:Option aL):St:={σ with base:=setAt σ.base i o}
noncomputable def St.Bo(σ:St)(i:Nat)(o:aL):St:={σ with temps:=setAt σ.temps i o}
noncomputable def St.obj(σ:St):ag->Option aL
 |.b i=>σ.n4 i
 |.t i=>aq σ.temps i
 |_=>none
noncomputable def St.put(σ:St)(v:ag)(o:aL):St:=match v with
 |.b i=>σ.lj i (some o)
 |.t i=>σ.Bo i o
 |_=>σ
theorem nf{P:Prop}(h:False):P:=h.elim
theorem Bp{α:Type}{a:α}{P:Prop}(h:none=some a):P:=nomatch h
noncomputable def jK(v:ag)(K:D->Prop):Prop:=by
 induction v using ag.casesOn with
 |d x=>exact K x
 |_=>exact False
@[elab_as_elim] theorem cN{motive:ag->Prop}{v:ag}{K:D->Prop}(h:jK v K)(H:∀x,K x->motive (.d x)):motive v:=by
 revert h
 induction v using ag.casesOn with
 |d x=>exact H x
 |_=>exact nf
noncomputable def Jo(v:ag)(K:Nat->Prop):Prop:=by
 induction v using ag.casesOn with
 |b i=>exact K i
 |_=>exact False
@[elab_as_elim] theorem tI{motive:ag->Prop}{v:ag}{K:Nat->Prop}(h:Jo v K)(H:∀i,K i->motive (.b i)):motive v:=by
 revert h
 induction v using ag.casesOn with
 |b i=>exact H i
 |_=>exact nf
noncomputable def WR(v:ag)(K:Nat->Prop):Prop:=by
 induction v using ag.casesOn with
 |t i=>exact K i
 |_=>exact False
@[elab_as_elim] theorem Jz{motive:ag->Prop}{v:ag}{K:Nat->Prop}(h:WR v K)(H:∀i,K i->motive (.t i)):motive v:=by
 revert h
 induction v using ag.casesOn with
 |t i=>exact H i
 |_=>exact nf
noncomputable def dI(x:PyData)(K:Int->Prop):Prop:=by
 induction x using PyData.casesOn with
 |int i=>exact K i
 |_=>exact False
@[elab_as_elim] theorem ui{motive:PyData->Prop}{x:PyData}{K:Int->Prop}(h:dI x K)(H:∀i,K i->motive (.int i)):motive x:=by
 revert h
 induction x using PyData.casesOn with
 |int i=>exact H i
 |_=>exact nf
noncomputable def dS(x:PyData)(K:Str->Prop):Prop:=by
 induction x using PyData.casesOn with
 |str s=>exact K s
 |_=>exact False
@[elab_as_elim] theorem JA{motive:PyData->Prop}{x:PyData}{K:Str->Prop}(h:dS x K)(H:∀s,K s->motive (.str s)):motive x:=by
 revert h
 induction x using PyData.casesOn with
 |str s=>exact H s
 |_=>exact nf
noncomputable def dB(x:PyData)(K:Bool->Prop):Prop:=by
 induction x using PyData.casesOn with
 |bool b=>exact K b
 |_=>exact False
@[elab_as_elim] theorem Qh{motive:PyData->Prop}{x:PyData}{K:Bool->Prop}(h:dB x K)(H:∀b,K b->motive (.bool b)):motive x:=by
 revert h
 induction x using PyData.casesOn with
 |bool b=>exact H b
 |_=>exact nf
noncomputable def dT(x:PyData)(K:List D->Prop):Prop:=by
 induction x using PyData.casesOn with
 |tuple l=>exact K l
 |_=>exact False
@[elab_as_elim] theorem JB{motive:PyData->Prop}{x:PyData}{K:List D->Prop}(h:dT x K)(H:∀l,K l->motive (.tuple l)):motive x:=by
 revert h
 induction x using PyData.casesOn with
 |tuple l=>exact H l
 |_=>exact nf
noncomputable def dL(x:PyData)(K:List D->Prop):Prop:=by
 induction x using PyData.casesOn with
 |list l=>exact K l
 |_=>exact False
@[elab_as_elim] theorem JC{motive:PyData->Prop}{x:PyData}{K:List D->Prop}(h:dL x K)(H:∀l,K l->motive (.list l)):motive x:=by
 revert h
 induction x using PyData.casesOn with
 |list l=>exact H l
 |_=>exact nf
noncomputable def mL(o:aL)(K:List ag->List D->Prop):Prop:=by
 induction o using aL.casesOn with
 |list c r=>exact K c r
 |_=>exact False
@[elab_as_elim] theorem TF{motive:aL->Prop}{o:aL}{K:List ag->List D->Prop}(h:mL o K)(H:∀c r,K c r->motive (.list c r)):motive o:=by
 revert h
 induction o using aL.casesOn with
 |list c r=>exact H c r
 |_=>exact nf
noncomputable def mD(o:aL)(K:List (Str×ag)->Prop):Prop:=by
 induction o using aL.casesOn with
 |dict l=>exact K l
 |_=>exact False
@[elab_as_elim] theorem XD{motive:aL->Prop}{o:aL}{K:List (Str×ag)->Prop}(h:mD o K)(H:∀l,K l->motive (.dict l)):motive o:=by
 revert h
 induction o using aL.casesOn with
 |dict l=>exact H l
 |_=>exact nf
noncomputable def mI(o:aL)(K:Nat->List (Str×ag)->Prop):Prop:=by
 induction o using aL.casesOn with
 |inst k l=>exact K k l
 |_=>exact False
@[elab_as_elim] theorem XE{motive:aL->Prop}{o:aL}{K:Nat->List (Str×ag)->Prop}(h:mI o K)(H:∀k l,K k l->motive (.inst k l)):motive o:=by
 revert h
 induction o using aL.casesOn with
 |inst k l=>exact H k l
 |_=>exact nf
noncomputable def zN(k:Int)(K:Nat->Prop):Prop:=by
 induction k using Int.casesOn with
 |ofNat n=>exact K n
 |_=>exact False
@[elab_as_elim] theorem JD{motive:Int->Prop}{k:Int}{K:Nat->Prop}(h:zN k K)(H:∀n,K n->motive (.ofNat n)):motive k:=by
 revert h
 induction k using Int.casesOn with
 |ofNat n=>exact H n
 |_=>exact nf
noncomputable def XF(v:ag)(K:Nat->Prop):Prop:=by
 induction v using ag.casesOn with
 |fn f=>exact K f
 |_=>exact False
@[elab_as_elim] theorem TG{motive:ag->Prop}{v:ag}{K:Nat->Prop}(h:XF v K)(H:∀f,K f->motive (.fn f)):motive v:=by
 revert h
 induction v using ag.casesOn with
 |fn f=>exact H f
 |_=>exact nf
noncomputable def dN(x:PyData)(K:Prop):Prop:=by
 induction x using PyData.casesOn with
 |none=>exact K
 |_=>exact False
@[elab_as_elim] theorem Qi{motive:PyData->Prop}{x:PyData}{K:Prop}(h:dN x K)(H:K->motive .none):motive x:=by
 revert h
 induction x using PyData.casesOn with
 |none=>exact H
 |_=>exact nf
noncomputable def kg{α:Type}(l:List α)(K:Prop):Prop:=match l with
 |[]=>K
 |_::_=>False
@[elab_as_elim] theorem gY{α:Type}{motive:List α->Prop}{l:List α}{K:Prop}(h:kg l K)(H:K->motive []):motive l:=by
 revert h
 induction l using List.casesOn with
 |nil=>exact H
 |cons x l=>exact nf
noncomputable def oS{α:Type}(o:Option α)(K:α->Prop):Prop:=match o with
 |some x=>K x
 |none=>False
theorem lN{α:Type}{P:Prop}{o:Option α}{K:α->Prop}(h:oS o K)(H:∀x,o=some x->K x->P):P:=by
 revert h H
 induction o using Option.casesOn with
 |some x=>exact fun h H=>H x rfl h
 |none=>exact fun h _=>nf h
noncomputable def oL(o:Option aL)(K:List ag->List D->Prop):Prop:=oS o fun o=>mL o K
noncomputable def oD(o:Option aL)(K:List (Str×ag)->Prop):Prop:=oS o fun o=>mD o K
noncomputable def oI(o:Option aL)(K:Nat->List (Str×ag)->Prop):Prop:=oS o fun o=>mI o K
theorem qS{P:Prop}{o:Option aL}{K:List ag->List D->Prop}(h:oL o K)(H:∀c r,o=some (.list c r)->K c r->P):P:=lN h fun x e h=>TF (motive:=fun x=>o=some x->P) h (fun c r h e=>H c r e h) e
theorem Hj{P:Prop}{o:Option aL}{K:List (Str×ag)->Prop}(h:oD o K)(H:∀l,o=some (.dict l)->K l->P):P:=lN h fun x e h=>XD (motive:=fun x=>o=some x->P) h (fun l h e=>H l e h) e
theorem TH{P:Prop}{o:Option aL}{K:Nat->List (Str×ag)->Prop}(h:oI o K)(H:∀k l,o=some (.inst k l)->K k l->P):P:=lN h fun x e h=>XE (motive:=fun x=>o=some x->P) h (fun k l h e=>H k l e h) e
noncomputable def O2(b:Bool)(K:Prop):Prop:=match b with
 |true=>K
 |false=>False
theorem u7{P K:Prop}{b:Bool}(h:O2 b K)(H:b=true->K->P):P:=by
 revert h H
 induction b using Bool.casesOn with
 |true=>exact fun h H=>H rfl h
 |false=>exact fun h _=>nf h
noncomputable def SK(b:Bool)(K:Prop):Prop:=match b with
 |true=>False
 |false=>K
theorem Bq{P K:Prop}{b:Bool}(h:SK b K)(H:b=false->K->P):P:=by
 revert h H
 induction b using Bool.casesOn with
 |true=>exact fun h _=>nf h
 |false=>exact fun h H=>H rfl h
noncomputable def fzO(o:aL)(K:List D->Prop)(L:D->Prop):Prop:=by
 induction o using aL.casesOn with
 |list c r=>exact kg c (K r)
 |yu x=>exact L x
 |_=>exact False
noncomputable def fz(v:ag)(σ:St)(K:KV):Prop:=by
 induction v using ag.casesOn with
 |t i=>exact oS (aq σ.temps i) fun o=>fzO o (fun r=>K (.d (.list r.reverse)) (σ.Bo i (.yu (.list r.reverse)))) fun x=>K (.d x) σ
 |d x=>exact K (.d x) σ
 |fn f=>exact K (.fn f) σ
 |ob k l=>exact K (.ob k l) σ
 |b i=>exact K (.b i) σ
 |g=>exact K .g σ
noncomputable def XG(o:aL)(i:Nat):ag:=by
 induction o using aL.casesOn with
 |yu x=>exact .d x
 |_=>exact .t i
noncomputable def res(σ:St)(v:ag):ag:=match v with
 |.t i=>match aq σ.temps i with
  |some o=>XG o i
  |none=>.t i
 |v=>v
noncomputable def qU:List ag->Option (List D)
 |[]=>some []
 |.d x::l=>match qU l with
  |some r=>some (x::r)
  |none=>none
 |_::_=>none
noncomputable def ah:Nat:=1000000
noncomputable def MV(op:Op)(x y:D)(K:D->Prop):Prop:=match op,x,y with
 |.add,.int a,.int b=>K (.int (a+b))
 |.add,.str a,.str b=>a.length+b.length<=ah/\K (.str (a++b))
 |.add,.tuple a,.tuple b=>a.length+b.length<=ah/\K (.tuple (a++b))
 |.add,.list a,.list b=>a.length+b.length<=ah/\K (.list (a++b))
 |.sub,.int a,.int b=>K (.int (a-b))
 |.mul,.int a,.int b=>(a.natAbs<=ah/\b.natAbs<=ah)/\K (.int (a*b))
 |.fdiv,.int a,.int b=>(0<b/\a.natAbs<=ah/\b.natAbs<=ah)/\K (.int (Int.fdiv a b))
 |.mod,.int a,.int b=>0<b/\K (.int (Int.fmod a b))
 |.pow,.int a,.int b=>(a=3/\0<=b/\b<12)/\K (.int (a ^ b.toNat))
 |_,_,_=>False
noncomputable def Hk(op:Op)(a b:Int)(K:Int->Prop):Prop:=match op with
 |.add=>K (a+b)
 |.sub=>K (a-b)
 |_=>False
noncomputable def isNone:D->Bool
 |.none=>true
 |_=>false
noncomputable def ze(x:Str):List D->Option Bool
 |[]=>some false
 |.str y::l=>match fb x y with
  |true=>match ze x l with|some _=>some true|none=>none
  |false=>ze x l
 |_::_=>none
noncomputable def Hl(x:Int):List D->Option Bool
 |[]=>some false
 |.int y::l=>match Hl x l with|some b=>some (decide (x=y)||b)|none=>none
 |_::_=>none
noncomputable def yw{α:Type}(x:Str):List (Str×α)->Bool
 |[]=>false
 |p::l=>fb p.1 x||yw x l
noncomputable def isNil{α:Type}:List α->Bool
 |[]=>true
 |_::_=>false
noncomputable def WS(v w:ag)(σ:St)(K:Bool->Prop):Prop:=match v,w with
 |.d (.str a),.d (.str b)=>K (fb a b)
 |.d (.int a),.d (.int b)=>K (decide (a=b))
 |.d .none,.d .none=>K true
 |.d .none,.d (.str _)=>K false
 |.d (.str _),.d .none=>K false
 |.d .none,.d (.int _)=>K false
 |.d (.int _),.d .none=>K false
 |.d (.int _),.d (.str _)=>K false
 |.d (.str _),.d (.int _)=>K false
 |.d (.tuple a),.d (.tuple [])=>K (isNil a)
 |.d (.list a),.d (.list [])=>K (isNil a)
 |.b i,.b j=>oL (σ.n4 i) fun c r=>kg c (oL (σ.n4 j) fun c' t=>kg c' (∃xs ys:List Str,r=xs.map PyData.str/\t=ys.map PyData.str/\K (decide (xs=ys))))
 |_,_=>False
noncomputable def WT(v w:ag)(σ:St)(K:Bool->Prop):Prop:=match v,w with
 |.d (.str a),.d (.str b)=>K (!fb a b)
 |.d .none,.d (.str _)=>K true
 |.d (.int a),.d (.int b)=>K (!decide (a=b))
 |.d (.list a),.d (.list [])=>K (!isNil a)
 |.b i,.d (.list [])=>oL (σ.n4 i) fun c r=>K (!(isNil c&&isNil r))
 |_,_=>False
noncomputable def inT(x:PyData)(l:List D)(K:Bool->Prop):Prop:=by
 induction x using PyData.casesOn with
 |str s=>exact oS (ze s l) K
 |int n=>exact oS (Hl n l) K
 |_=>exact False
noncomputable def O3(tab:List (Str×D))(v w:ag)(σ:St)(K:Bool->Prop):Prop:=by
 induction w using ag.casesOn with
 |d y=>exact dT y fun l=>jK v fun x=>inT x l K
 |b i=>exact jK v fun x=>dS x fun s=>oD (σ.n4 i) fun l=>K (yw s l)
 |g=>exact jK v fun x=>dS x fun s=>K (yw s tab)
 |_=>exact False
noncomputable def TJ(tab:List (Str×D))(v w:ag)(K:Bool->Prop):Prop:=by
 induction w using ag.casesOn with
 |d y=>exact dT y fun l=>jK v fun x=>dS x fun s=>oS (ze s l) fun b=>K (!b)
 |g=>exact jK v fun x=>dS x fun s=>K (!yw s tab)
 |_=>exact False
noncomputable def MW(tab:List (Str×D))(op:CO)(v w:ag)(σ:St)(K:Bool->Prop):Prop:=match op with
 |.eq=>WS v w σ K
 |.ne=>WT v w σ K
 |.lt=>jK v fun x=>dI x fun a=>jK w fun y=>dI y fun b=>K (decide (a<b))
 |.gt=>jK v fun x=>dI x fun a=>jK w fun y=>dI y fun b=>K (decide (a>b))
 |.is=>jK w fun y=>dN y (jK v fun x=>K (isNone x))
 |.nW=>jK w fun y=>dN y (jK v fun x=>K (!isNone x))
 |.isin=>O3 tab v w σ K
 |.yv=>TJ tab v w K
noncomputable def idx{α:Type}(l:List α)(k:Int):Option α:=match k with
 |.ofNat n=>aq l n
 |.negSucc _=>none
noncomputable def items(c:List ag)(r:List D):List ag:=(c++r.map ag.d).reverse
noncomputable def lastOf(c:List ag)(r:List D):Option ag:=match c with
 |x::_=>some x
 |[]=>match r with
  |y::_=>some (.d y)
  |[]=>none
noncomputable def small(m:Nat)(P:Prop):Prop:=match Nat.ble m 99 with
 |true=>P
 |false=>m<=ah/\P
theorem aj{m:Nat}{P:Prop}(h:m<=ah)(p:P):small m P:=by
 unfold small;cases Nat.ble m 99<;>first|exact p|exact⟨h,p⟩
theorem dw{m:Nat}{P:Prop}(h:small m P):m<=ah/\P:=by
 unfold small at h;split at h
 ·rename_i e;exact⟨Nat.le_trans (Nat.le_of_ble_eq_true e) (by decide),h⟩
 ·exact h
noncomputable def JE(k:Int)(P:Prop):Prop:=match k with
 |.ofNat m=>small m P
 |.negSucc _=>P
noncomputable def u9(tab:List (Str×D))(o i:ag)(σ:St)(K:ag->Prop):Prop:=match o,i with
 |.g,.d (.str x)=>match dF x tab with|some v=>K (.d v)|none=>False
 |.d (.tuple l),.d (.int k)=>match idx l k with|some x=>JE k (K (.d x))|none=>False
 |.d (.list l),.d (.int k)=>match idx l k with|some x=>JE k (K (.d x))|none=>False
 |.d (.str x),.d (.int k)=>match k with
  |.ofNat n=>match aq x.cps.toList n with|some c=>small n (K (.d (.str ⟨⟨[c]⟩⟩)))|none=>False
  |.negSucc _=>False
 |.b n,.d (.int k)=>match σ.n4 n with
  |some (.list c r)=>match k with
   |.ofNat m=>match aq (items c r) m with|some x=>small m (K x)|none=>False
   |.negSucc 0=>match lastOf c r with|some x=>K x|none=>False
   |.negSucc _=>False
  |_=>False
 |.t n,.d (.int k)=>match aq σ.temps n with
  |some (.list c r)=>match k with
   |.ofNat m=>match aq (items c r) m with|some x=>small m (K x)|none=>False
   |.negSucc 0=>match lastOf c r with|some x=>K x|none=>False
   |.negSucc _=>False
  |_=>False
 |.b n,.d (.str x)=>match σ.n4 n with
  |some (.dict l)=>match dF x l with|some v=>K v|none=>False
  |_=>False
 |_,_=>False
noncomputable def JF(v:Option ag)(K:Option Nat->Prop):Prop:=match v with
 |none=>K none
 |some v=>jK v fun x=>dI x fun k=>zN k fun n=>n<=ah/\K (some n)
noncomputable def TK(l:List D)(lo hi:Option Nat)(K:ag->Prop):Prop:=oS lo fun a=>by
 induction hi using Option.casesOn with
 |none=>exact(1<=a/\a<=l.length/\l.length<=ah)/\K (.d (.tuple (l.drop a)))
 |some b=>exact(1<=a/\a<=b/\b<=l.length/\l.length<=ah)/\K (.d (.tuple ((l.take b).drop a)))
noncomputable def TL(l:List D)(lo hi:Option Nat)(K:ag->Prop):Prop:=by
 induction lo using Option.casesOn with
 |none=>exact oS hi fun b=>l.length<=ah/\K (.d (.list (l.take b)))
 |some a=>
  induction hi using Option.casesOn with
  |none=>exact l.length<=ah/\K (.d (.list (l.drop a)))
  |some b=>exact(a<=b/\b<=l.length/\l.length<=ah)/\K (.d (.list ((l.take b).drop a)))
noncomputable def Qj(o:ag)(lo hi:Option Nat)(K:ag->Prop):Prop:=jK o fun x=>by
 induction x using PyData.casesOn with
 |tuple l=>exact TK l lo hi K
 |list l=>exact TL l lo hi K
 |_=>exact False
noncomputable def pk:List Nat->St->Option Nat
 |[],_=>none
 |i::l,σ=>match aq σ.base i with
  |some none=>some i
  |_=>pk l σ
noncomputable def kB:List ag->Bool
 |[]=>true
 |v::l=> !kz v&&kB l
noncomputable def dOf{α:Type}(v:ag)(K:D->Option α):Option α:=by
 induction v using ag.casesOn with
 |d x=>exact K x
 |_=>exact none
theorem JG{α:Type}{o:α}{motive:ag->Prop}{v:ag}{K:D->Option α}(h:dOf v K=some o)(H:∀x,K x=some o->motive (.d x)):motive v:=by
 revert h
 induction v using ag.casesOn with
 |d x=>exact H x
 |_=>exact Bp
theorem DW{α β:Type}{P:Prop}{x:β}{o:Option α}{f:α->β}(h:o.map f=some x)(H:∀a,o=some a->f a=x->P):P:=by
 revert h H
 induction o using Option.casesOn with
 |none=>exact fun h _=>Bp h
 |some a=>exact fun h H=>H a rfl (Option.some.inj h)
noncomputable def p8:List (Str×ag)->Option (List (Str×D))
 |[]=>some []
 |p::l=>dOf p.2 fun x=>(p8 l).map ((p.1,x)::·)
noncomputable def TM(o:aL)(K:aL->Prop):Prop:=by
 induction o using aL.casesOn with
 |list c r=>exact O2 (kB c) (K (.list c r))
 |dict l=>exact oS (p8 l) fun _=>K (.dict l)
 |_=>exact False
noncomputable def SM(b:Bool)(P R:Prop):Prop:=match b with
 |true=>P
 |false=>R
noncomputable def pS(p:Place)(o:aL)(ê:ak)(σ:St)(K:KV):Prop:=by
 induction p using Place.casesOn with
 |fz=>exact mL o fun c r=>kg c (K (.d (.list r.reverse)) σ)
 |Be=>exact TM o fun o=>K (.t σ.temps.length) {σ with temps:=σ.temps++[o]}
 |base l=>exact oS (pk l σ) fun i=>O2 (DV o) (SM (Bg i) (SK (iP ê) (K (.b i) {σ.lj i (some o)with gen:=σ.gen+1})) (K (.b i) {σ.lj i (some o)with gen:=σ.gen}))
noncomputable def Jp(vs:List ag):aL:=match qU vs with
 |some ds=>.list [] ds.reverse
 |none=>.list vs.reverse []
noncomputable def Qk(v:ag)(ê:ak)(σ:St)(K:KV):Prop:=Jo v fun i=>O2 (Bg i) (SK (iP ê) (O2 (lZ i σ.base) (oS (σ.n4 i) fun o=>by
 induction o using aL.casesOn with
 |list c r=>exact kg c (K (.d (.list r.reverse)) {σ.lj i none with gen:=σ.gen+1})
 |inst k l=>exact oS (p8 l) fun l'=>K (.ob k l') {σ.lj i none with gen:=σ.gen+1}
 |_=>exact False)))
noncomputable def Ql(v:ag)(σ:St)(K:Int->Prop):Prop:=by
 induction v using ag.casesOn with
 |d x=>
  induction x using PyData.casesOn with
  |list l=>exact small l.length (K (l.length:Int))
  |tuple l=>exact small l.length (K (l.length:Int))
  |str x=>exact small x.length (K (x.length:Int))
  |_=>exact False
 |b i=>exact oL (σ.n4 i) fun c r=>small (c.length+r.length) (K ((c.length+r.length:Nat):Int))
 |t i=>exact oL (aq σ.temps i) fun c r=>small (c.length+r.length) (K ((c.length+r.length:Nat):Int))
 |_=>exact False
noncomputable def Br(v:ag)(a:Str)(σ:St)(K:ag->Prop):Prop:=by
 induction v using ag.casesOn with
 |b i=>exact oI (σ.n4 i) fun _ l=>oS (dF a l) K
 |ob k l=>exact oS (dF a l) fun w=>K (.d w)
 |_=>exact False
noncomputable def Bs(v:ag)(σ:St)(P:Prop):Prop:=oL (σ.obj v) fun _ _=>P
noncomputable def Bt(v:ag)(σ:St)(P:Prop):Prop:=oD (σ.obj v) fun _=>P
noncomputable def XH(x:ag)(r:List D)(K:aL->Prop):Prop:=by
 induction x using ag.casesOn with
 |d y=>exact K (.list [] (y::r))
 |fn f=>exact K (.list [.fn f] r)
 |ob k l=>exact K (.list [.ob k l] r)
 |b i=>exact K (.list [.b i] r)
 |g=>exact K (.list [.g] r)
 |t i=>exact False
noncomputable def XI(c:List ag)(r:List D)(x:ag)(K:aL->Prop):Prop:=c.length+r.length<ah/\match c with
 |[]=>XH x r K
 |z::c=>O2 (ke x) (K (.list (x::z::c) r))
noncomputable def zf(o x:ag)(σ:St)(K:St->Prop):Prop:=by
 induction o using ag.casesOn with
 |b i=>exact oL (σ.n4 i) fun c r=>XI c r x fun o=>K (σ.lj i (some o))
 |t i=>exact oL (aq σ.temps i) fun c r=>kg c (jK x fun y=>0+r.length<ah/\K (σ.Bo i (.list [] (y::r))))
 |_=>exact False
noncomputable def zg(o x:ag)(σ:St)(K:St->Prop):Prop:=WR o fun i=>jK x fun x=>dL x fun l=>oL (aq σ.temps i) fun c r=>kg c (r.length+l.length<ah/\K (σ.Bo i (.list [] (l.reverse++r))))
noncomputable def sz:List (Str×ag)->List (Str×ag)->List (Str×ag)
 |l,[]=>l
 |l,p::m=>sz (jb p.1 p.2 l) m
noncomputable def Qm(o x:ag)(σ:St)(K:St->Prop):Prop:=Jo o fun i=>Jo x fun j=>oD (σ.n4 i) fun l=>oD (σ.n4 j) fun m=>(i≠j/\l.length+m.length<=1000)/\K (σ.lj i (some (.dict (sz l m))))
noncomputable def TN(c:List ag)(r:List D)(K:ag->aL->Prop):Prop:=match c with
 |x::c'=>small (c'.length+r.length) (K x (.list c' r))
 |[]=>match r with
  |y::r'=>small r'.length (K (.d y) (.list [] r'))
  |[]=>False
noncomputable def Qn(o:ag)(σ:St)(K:ag->St->Prop):Prop:=Jo o fun i=>oL (σ.n4 i) fun c r=>TN c r fun x o=>K x (σ.lj i (some o))
noncomputable def Qo(v:ag)(K:D->Prop):Prop:=jK v fun x=>by
 induction x using PyData.casesOn with
 |str x=>exact K (.str x)
 |int i=>exact i.natAbs<=ah/\K (.str (PyData.int i).shown)
 |bool b=>exact K (.str (PyData.bool b).shown)
 |list l=>exact((PyData.list l).showable=true/\(PyData.list l).hasDict=false/\(PyData.list l).depth<=20/\(PyData.list l).shown.length<=ah)/\K (.str (PyData.list l).shown)
 |tuple l=>exact((PyData.tuple l).showable=true/\(PyData.tuple l).hasDict=false/\(PyData.tuple l).depth<=20/\(PyData.tuple l).shown.length<=ah)/\K (.str (PyData.tuple l).shown)
 |_=>exact False
noncomputable def eM(k:Nat):List D:=(List.range k).map fun(n:Nat)=>PyData.int (n:Int)
noncomputable def JH(e:E):Option E:=by
 induction e using E.casesOn with
 |su e=>exact some e
 |_=>exact none
noncomputable def jg(w:Option (Nat×List D))(σ:St)(P:Prop):Prop:=match w with
 |none=>P
 |some (i,r)=>σ.n4 i=some (.list [] r)/\P
noncomputable def envOf(fv:List Str)(ê:ak):ak:=match fv with
 |[]=>[]
 |x::l=>match dF x ê with
  |some v=>(x,v)::envOf l ê
  |none=>envOf l ê
noncomputable def vc(v:ag)(P:Prop):Prop:=match kz v with
 |false=>P
 |true=>False
noncomputable def oa(ê:ak)(P:Prop):Prop:=match iP ê with
 |false=>P
 |true=>False
structure Own where
 tab:List (Str×D)
 tup:D
 init:Nat->Nat
noncomputable def og(w:ag)(a:Str)(v:ag)(σ:St)(K:St->Prop):Prop:=Jo w fun i=>oI (σ.n4 i) fun k l=>O2 (ke v) (SK (kz v) (l.length<=100/\K (σ.lj i (some (.inst k (jb a v l))))))
noncomputable def Bu(o i v:ag)(σ:St)(K:St->Prop):Prop:=Jo o fun n=>jK i fun z=>by
 induction z using PyData.casesOn with
 |str x=>exact oD (σ.n4 n) fun l=>jK v fun y=>l.length<=100/\K (σ.lj n (some (.dict (jb x (.d y) l))))
 |int k=>exact zN k fun m=>oL (σ.n4 n) fun c r=>kg c (jK v fun y=>(m<r.length/\r.length<=ah)/\K (σ.lj n (some (.list [] (setAt r (r.length-1-m) y)))))
 |_=>exact False
noncomputable def tJ:List Str->List D->ak->(ak->Prop)->Prop
 |[],[],ê,K=>K ê
 |x::xs,d::ds,ê,K=>tJ xs ds (jb x (.d d) ê) K
 |_,_,_,_=>False
noncomputable abbrev KF:=Fl->ak->St->Prop
noncomputable abbrev Ex:=T->ak->St->KF->Prop
noncomputable def bind1(sC:List Str)(d:D)(ê:ak)(K:ak->Prop):Prop:=match sC with
 |[]=>False
 |[x]=>K (jb x (.d d) ê)
 |x::y::r=>match d with
  |.tuple l=>tJ (x::y::r) l ê K
  |_=>False
noncomputable def DX:Nat:=100000
structure Defs where
 par:Nat->List Str
 code:Nat->List T
noncomputable def fS(Q:KV):KF:=fun fl _ aF=>match fl with
 |.ret v=>match v with
  |.t _=>False
  |v=>Q v aF
 |.next=>Q (.d .none) aF
 |.cont=>False
section
variable(f:Ev)(tab:List (Str×D))
abbrev KL:=List ag->St->Prop
abbrev KO:=Option ag->St->Prop
abbrev KB:=Bool->St->Prop
noncomputable def kL3(v':ag)(au:St)(Q:KL):KL:=fun vs eF=>xK v' au eF (Q (v'::vs) eF)
noncomputable def kL2(g:ak->St->KL->Prop)(ê:ak)(Q:KL):KV:=fun v' au=>g ê au (kL3 v' au Q)
noncomputable def kL1(g:ak->St->KL->Prop)(ê:ak)(Q:KL):KV:=fun v ab=>fz v ab (kL2 g ê Q)
noncomputable def DI:List E->ak->St->KL->Prop
 |[],_,σ,Q=>Q [] σ
 |e::es,ê,σ,Q=>f e ê σ (kL1 (DI es) ê Q)
noncomputable def TO(Q:KO):KV:=fun v aF=>Q (some v) aF
noncomputable def TP(e:Option E)(ê:ak)(σ:St)(Q:KO):Prop:=match e with
 |none=>Q none σ
 |some e=>f e ê σ (TO Q)
noncomputable def vd(v:ag)(K:Bool->Prop):Prop:=jK v fun x=>dB x K
noncomputable def kBs(σ:St)(Q:KB):Bool->Prop:=fun b=>Q b σ
noncomputable def JI(Q:KB):KV:=fun v ab=>vd v (kBs ab Q)
noncomputable def XJ(g:KB->St->Prop)(Q:KB):KB:=fun b ab=>match b with
 |true=>g Q ab
 |false=>Q false ab
noncomputable def kOr(g:KB->St->Prop)(Q:KB):KB:=fun b ab=>match b with
 |true=>Q true ab
 |false=>g Q ab
noncomputable def TQ(op:CO)(v:ag)(ab:St)(Q:KB):KV:=fun w au=>xK v ab au (MW tab op v w au (kBs au Q))
noncomputable def TR(op:CO)(r:E)(ê:ak)(Q:KB):KV:=fun v ab=>f r ê ab (TQ tab op v ab Q)
noncomputable def MF(g:ak->St->KB->Prop)(ê:ak):KB->St->Prop:=fun Q σ=>g ê σ Q
noncomputable def DY:Nat->E->ak->St->KB->Prop
 |0,_,_,_,_=>False
 |n+1,e,ê,σ,Q=>match e with
  |.cx l r=>DY n l ê σ (XJ (MF (DY n r) ê) Q)
  |.Bf l r=>DY n l ê σ (kOr (MF (DY n r) ê) Q)
  |.cmp op l r=>f l ê σ (TR f tab op r ê Q)
  |.var x=>f (.var x) ê σ (JI Q)
  |.sub o i=>f (.sub o i) ê σ (JI Q)
  |.call g l=>f (.call g l) ê σ (JI Q)
  |_=>False
noncomputable def itD(x:D)(K:List D->Prop):Prop:=by
 induction x using PyData.casesOn with
 |list l=>exact small l.length (K l)
 |tuple l=>exact small l.length (K l)
 |_=>exact False
noncomputable def itV(v:ag)(σ:St)(K:List D->Option (Nat×List D)->St->Prop):Prop:=by
 induction v using ag.casesOn with
 |d x=>exact itD x fun l=>K l none σ
 |b i=>exact SK (Bg i) (oL (σ.n4 i) fun c r=>kg c (small r.length (K r.reverse (some (i,r)) σ)))
 |_=>exact False
noncomputable def XK(K:List D->Option (Nat×List D)->St->Prop):KV:=fun v ab=>jK v fun x=>dI x fun k=>zN k fun n=>small n (K (eM n) none ab)
noncomputable def TS(K:List D->Option (Nat×List D)->St->Prop):KV:=fun v ab=>itV v ab K
noncomputable def mA(it:E)(ê:ak)(σ:St)(K:List D->Option (Nat×List D)->St->Prop):Prop:=match JH it with
 |some e=>f e ê σ (XK K)
 |none=>f it ê σ (TS K)
noncomputable def kC2(g:List ag->St->KL->Prop)(acc:List ag)(Q:KL):KV:=fun v' au=>vc v' (g (v'::acc) au Q)
noncomputable def kC1(g:List ag->St->KL->Prop)(acc:List ag)(Q:KL):KV:=fun v ab=>fz v ab (kC2 g acc Q)
noncomputable def kCT(elt:E)(ed:ak)(g:List ag->St->KL->Prop)(acc:List ag)(Q:KL):KB:=fun b ab=>match b with
 |true=>f elt ed ab (kC1 g acc Q)
 |false=>g acc ab Q
noncomputable def kh(m:Nat)(elt:E)(tg:Str)(cond:Option E)(w:Option (Nat×List D))(ê:ak):List D->List ag->St->KL->Prop
 |[],acc,σ,Q=>jg w σ (Q acc.reverse σ)
 |x::xs,acc,σ,Q=>jg w σ (match cond with
  |none=>f elt ((tg,.d x)::ê) σ (kC1 (kh m elt tg cond w ê xs) acc Q)
  |some c=>DY f tab m c ((tg,.d x)::ê) σ (kCT f elt ((tg,.d x)::ê) (kh m elt tg cond w ê xs) acc Q))
noncomputable def kD(σ:St)(Q:KV):D->Prop:=fun z=>Q (.d z) σ
noncomputable def kM(σ:St)(Q:KV):ag->Prop:=fun w=>Q w σ
noncomputable def kN(Q:KV):St->Prop:=fun σ=>Q (.d .none) σ
noncomputable def TU(a:Str)(Q:KV):KV:=fun v ab=>Br v a ab (kM ab Q)
noncomputable def TV(v:ag)(ab:St)(Q:KV):KV:=fun w au=>xK v ab au (u9 tab v w au (kM au Q))
noncomputable def TX(i:E)(ê:ak)(Q:KV):KV:=fun v ab=>f i ê ab (TV tab v ab Q)
noncomputable def XM(v:ag)(a:Option ag)(Q:KV):KO:=fun b eF=>JF a fun a'=>JF b fun b'=>Qj v a' b' (kM eF Q)
noncomputable def XN(v:ag)(hi:Option E)(ê:ak)(Q:KV):KO:=fun a au=>TP f hi ê au (XM v a Q)
noncomputable def XO(lo hi:Option E)(ê:ak)(Q:KV):KV:=fun v ab=>TP f lo ê ab (XN f v hi ê Q)
noncomputable def XQ(v:ag)(Q:KV):KV:=fun w au=>Jo v fun i=>jK w fun y=>dI y fun k=>zN k fun m=>oL (au.n4 i) fun c r=>kg c ((m<=r.length/\r.length<=ah)/\Q (.d (.list (r.take m).reverse)) au)
noncomputable def XR(k:E)(ê:ak)(Q:KV):KV:=fun v ab=>f k ê ab (XQ v Q)
noncomputable def TY(op:Op)(v:ag)(Q:KV):KV:=fun w au=>jK v fun x=>jK w fun y=>MV op x y (kD au Q)
noncomputable def TZ(op:Op)(r:E)(ê:ak)(Q:KV):KV:=fun v ab=>f r ê ab (TY op v Q)
noncomputable def kBv(σ:St)(Q:KV):Bool->Prop:=fun b=>Q (.d (.bool b)) σ
noncomputable def XS(op:CO)(v:ag)(ab:St)(Q:KV):KV:=fun w au=>xK v ab au (MW tab op v w au (kBv au Q))
noncomputable def XT(op:CO)(r:E)(ê:ak)(Q:KV):KV:=fun v ab=>f r ê ab (XS tab op v ab Q)
noncomputable def kAn(r:E)(ê:ak)(Q:KV):KV:=fun v ab=>vd v fun b=>SM b (f r ê ab Q) (Q (.d (.bool false)) ab)
noncomputable def kOn(r:E)(ê:ak)(Q:KV):KV:=fun v ab=>vd v fun b=>SM b (Q (.d (.bool true)) ab) (f r ê ab Q)
noncomputable def kIf(t e:E)(ê:ak)(Q:KV):KB:=fun b ab=>match b with
 |true=>f t ê ab Q
 |false=>f e ê ab Q
noncomputable def XU(Q:KV):KL:=fun vs ab=>oS (qU vs) fun ds=>Q (.d (.tuple ds)) ab
noncomputable def XW(p:Place)(ê:ak)(Q:KV):KL:=fun vs ab=>pS p (Jp vs) ê ab Q
noncomputable def XX(p:Place)(ks:List Str)(ê:ak)(σ:St)(Q:KV):KL:=fun vs ab=>pR ê σ ab (pS p (.dict (ks.zip vs)) ê ab Q)
noncomputable def XY(ê:ak)(ab:St)(Q:KV):KV:=fun v au=>pR ê ab au (Q v {au with temps:=ab.temps})
noncomputable def O4(C:Cl)(g:Nat)(ê:ak)(Q:KV):KL:=fun vs ab=>C g vs {ab with temps:=[]} (XY ê ab Q)
noncomputable def kCv(C:Cl)(l:List E)(ê:ak)(Q:KV):KV:=fun v JJ=>XF v fun g=>DI f l ê JJ (O4 C g ê Q)
noncomputable def XZ(o:ag)(ê:ak)(au:St)(Q:KV):KV:=fun v eF=>jK v fun x=>dN x (xK o au eF (pR ê au eF (Q o {eF with temps:=au.temps})))
noncomputable def X0(C:Cl)(g:Nat)(vs:List ag)(ê:ak)(Q:KV):KV:=fun o au=>C g (o::vs) {au with temps:=[]} (XZ o ê au Q)
noncomputable def X1(C:Cl)(g k slot:Nat)(ê:ak)(Q:KV):KL:=fun vs ab=>pS (.base [slot]) (.inst k []) ê ab (X0 C g vs ê Q)
noncomputable def X2(ê:ak)(Q:KV):KV:=fun v ab=>Qk v ê ab Q
noncomputable def X3(Q:KV):KV:=fun v ab=>Ql v ab fun k=>Q (.d (.int k)) ab
noncomputable def X4(Q:KV):KV:=fun v' au=>Qo v' (kD au Q)
noncomputable def X5(Q:KV):KV:=fun v ab=>fz v ab (X4 Q)
noncomputable def kMl(Q:KV):KV:=fun v ab=>jK v fun x=>dL x fun l=>l.length<=ah/\Q (.d (.list l)) ab
noncomputable def X6(Q:KV):KV:=fun v' au=>jK v' fun x=>dL x fun l=>l.length<=ah/\Q (.d (.tuple l)) au
noncomputable def kMt(Q:KV):KV:=fun v ab=>fz v ab (X6 Q)
noncomputable def X7(v:ag)(ab:St)(Q:KV):KV:=fun w au=>xK v ab au (zf v w au (kN Q))
noncomputable def X8(x:E)(ê:ak)(Q:KV):KV:=fun v ab=>Bs v ab (f x ê ab (X7 v ab Q))
noncomputable def X9(v:ag)(Q:KV):KV:=fun w au=>zg v w au (kN Q)
noncomputable def Yb(x:E)(ê:ak)(Q:KV):KV:=fun v ab=>Bs v ab (f x ê ab (X9 v Q))
noncomputable def Yc(Q:KV):KV:=fun v ab=>Qn v ab Q
noncomputable def Yd(v:ag)(ab:St)(Q:KV):KV:=fun w au=>xK v ab au (Qm v w au (kN Q))
noncomputable def Ye(x:E)(ê:ak)(Q:KV):KV:=fun v ab=>Bt v ab (f x ê ab (Yd v ab Q))
noncomputable def Yg(v w:ag)(au:St)(Q:KV):KV:=fun u eF=>xK w au eF (WR v fun i=>jK w fun y=>dS y fun a=>oD (aq eF.temps i) fun l=>match dF a l with
 |some y=>Q y eF
 |none=>Q u eF)
noncomputable def Yh(x:E)(v:ag)(ê:ak)(Q:KV):KV:=fun w au=>f x ê au (Yg v w au Q)
noncomputable def Yi(k x:E)(ê:ak)(Q:KV):KV:=fun v ab=>Bt v ab<|f k ê ab (Yh f x v ê Q)
noncomputable def Yj(ê:ak)(ab:St)(Q:KV):KL:=fun vs au=>pR ê ab au (pS (match qU vs with|some _=>.fz|none=>.Be) (Jp vs) ê au Q)
noncomputable def Yk(n:Nat)(elt:E)(tg:Str)(cond:Option E)(fv:List Str)(ê:ak)(Q:KV):List D->Option (Nat×List D)->St->Prop:=fun xs w ab=>
 oa (envOf fv ê)<|kh f tab n elt tg cond w (envOf fv ê) xs [] ab (Yj ê ab Q)
end
noncomputable def ev(G:Own)(C:Cl):Nat->Ev
 |0,_,_,_,_=>False
 |n+1,e,ê,σ,Q=>match e with
  |.c x=>Q (.d x) σ
  |.neg i=>Q (.d (.int (.negSucc i))) σ
  |.var x=>oS (dF x ê) fun v=>Q (res σ v) σ
  |.ph f=>Q (.fn f) σ
  |.O1 g=>match g with
   |0=>Q .g σ
   |_=>Q (.d G.tup) σ
  |.attr o a=>ev G C n o ê σ (TU a Q)
  |.sub o i=>ev G C n o ê σ (TX (ev G C n) G.tab i ê Q)
  |.DT o lo hi=>ev G C n o ê σ (XO (ev G C n) lo hi ê Q)
  |.Bn o k=>ev G C n o ê σ (XR (ev G C n) k ê Q)
  |.bin op l r=>ev G C n l ê σ (TZ (ev G C n) op r ê Q)
  |.cmp op l r=>ev G C n l ê σ (XT (ev G C n) G.tab op r ê Q)
  |.cx l r=>ev G C n l ê σ (kAn (ev G C n) r ê Q)
  |.Bf l r=>ev G C n l ê σ (kOn (ev G C n) r ê Q)
  |.ite c t e=>DY (ev G C n) G.tab n c ê σ (kIf (ev G C n) t e ê Q)
  |.tup l=>DI (ev G C n) l ê σ (XU Q)
  |.lst p l=>DI (ev G C n) l ê σ (XW p ê Q)
  |.Hi p ks l=>DI (ev G C n) l ê σ (XX p ks ê σ Q)
  |.call f l=>DI (ev G C n) l ê σ (O4 C f ê Q)
  |.tH o l=>ev G C n o ê σ (kCv (ev G C n) C l ê Q)
  |.new k slot l=>DI (ev G C n) l ê σ (X1 C (G.init k) k slot ê Q)
  |.gP e=>ev G C n e ê σ (X2 ê Q)
  |.len e=>ev G C n e ê σ (X3 Q)
  |.su _=>False
  |.str e=>ev G C n e ê σ (X5 Q)
  |.sy e=>ev G C n e ê σ (kMl Q)
  |.pj e=>ev G C n e ê σ (kMt Q)
  |.append o x=>ev G C n o ê σ (X8 (ev G C n) x ê Q)
  |.extend o x=>ev G C n o ê σ (Yb (ev G C n) x ê Q)
  |.pop o=>ev G C n o ê σ (Yc Q)
  |.update o x=>ev G C n o ê σ (Ye (ev G C n) x ê Q)
  |.get o k x=>ev G C n o ê σ (Yi (ev G C n) k x ê Q)
  |.comp elt tg it cond fv=>mA (ev G C n) it ê σ (Yk (ev G C n) G.tab n elt tg cond fv ê Q)
section
variable(f:Ev)
noncomputable def kSA(g:ak->St->(St->Prop)->Prop)(ê:ak)(K:St->Prop):St->Prop:=fun au=>g ê au K
noncomputable def Yl(a:Str)(d:D)(g:ak->St->(St->Prop)->Prop)(ê:ak)(K:St->Prop):KV:=fun w ab=>og w a (.d d) ab (kSA g ê K)
noncomputable def zh:List (E×Str)->List D->ak->St->(St->Prop)->Prop
 |[],[],_,σ,K=>K σ
 |p::l,d::ds,ê,σ,K=>f p.1 ê σ (Yl p.2 d (zh l ds) ê K)
 |_,_,_,_,_=>False
noncomputable def kE(ê:ak)(K:ak->St->Prop):St->Prop:=fun σ=>K ê σ
noncomputable def kEs(σ:St)(K:ak->St->Prop):ak->Prop:=fun ê=>K ê σ
noncomputable def kAA(a:Str)(v:ag)(σ:St)(ê:ak)(K:ak->St->Prop):KV:=fun w ab=>xK v σ ab (og w a v ab (kE ê K))
noncomputable def Ym(v:ag)(σ:St)(w:ag)(ab:St)(ê:ak)(K:ak->St->Prop):KV:=fun u au=>xK v σ au (xK w ab au (Bu w u v au (kE ê K)))
noncomputable def Yn(i:E)(v:ag)(σ:St)(ê:ak)(K:ak->St->Prop):KV:=fun w ab=>f i ê ab (Ym v σ w ab ê K)
noncomputable def Yo(w:ag)(ê:ak)(K:ak->St->Prop):KV:=fun u au=>Jo w fun i=>jK u fun y=>dI y fun k=>zN k fun m=>oL (au.n4 i) fun c r=>kg c ((m<=r.length/\r.length<=ah)/\K ê (au.lj i (some (.list [] (r.drop m)))))
noncomputable def T5(n:E)(ê:ak)(K:ak->St->Prop):KV:=fun w ab=>f n ê ab (Yo w ê K)
noncomputable def MX(tg:Tg)(v:ag)(ê:ak)(σ:St)(K:ak->St->Prop):Prop:=match tg with
 |.x x=>K (jb x v ê) σ
 |.attr o a=>f o ê σ (kAA a v σ ê K)
 |.sub o i=>f o ê σ (Yn f i v σ ê K)
 |.cut o n=>jK v fun x=>dL x fun l=>kg l (f o ê σ (T5 f n ê K))
 |.tup xs=>jK v fun x=>dT x fun l=>tJ xs l ê (kEs σ K)
 |.atts l=>jK v fun x=>dT x fun ds=>O2 (Nat.beq l.length ds.length) (zh f l ds ê σ (kE ê K))
end
noncomputable def Yp(g:ak->St->KF->Prop)(Q:KF):KF:=fun fl ed aF=>match fl with
 |.next=>g ed aF Q
 |.cont=>Q .cont ed aF
 |.ret v=>Q (.ret v) ed aF
noncomputable def gC(h:Ex):List T->ak->St->KF->Prop
 |[],ê,σ,Q=>Q .next ê σ
 |t::ts,ê,σ,Q=>h t ê σ (Yp (gC h ts) Q)
noncomputable def O5(g:ak->St->KF->Prop)(Q:KF):KF:=fun fl Qp aF=>match fl with
 |.next=>g Qp aF Q
 |.cont=>g Qp aF Q
 |.ret v=>Q (.ret v) Qp aF
noncomputable def T6(h:Ex)(body:List T)(σ:St)(K:KF):ak->Prop:=fun ed=>gC h body ed σ K
noncomputable def forL(h:Ex)(sC:List Str)(body:List T)(w:Option (Nat×List D)):List D->ak->St->KF->Prop
 |[],ê,σ,Q=>jg w σ (Q .next ê σ)
 |x::xs,ê,σ,Q=>jg w σ (bind1 sC x ê (T6 h body σ (O5 (forL h sC body w xs) Q)))
noncomputable def kWh(h:Ex)(body:List T)(g:ak->St->KF->Prop)(ê:ak)(Q:KF):KB:=fun b ab=>match b with
 |false=>Q .next ê ab
 |true=>gC h body ê ab (O5 g Q)
noncomputable def zi(t:ak->St->(Bool->St->Prop)->Prop)(h:Ex)(body:List T):Nat->ak->St->KF->Prop
 |0,_,_,_=>False
 |n+1,ê,σ,Q=>t ê σ (kWh h body (zi t h body n) ê Q)
noncomputable def kX(ê:ak)(Q:KF):KV:=fun _ ab=>Q .next ê ab
noncomputable def Yq(Q:KF):ak->St->Prop:=fun ê σ=>Q .next ê σ
noncomputable def kR2(ê:ak)(Q:KF):KV:=fun v' au=>Q (.ret v') ê au
noncomputable def kR1(ê:ak)(Q:KF):KV:=fun v ab=>fz v ab (kR2 ê Q)
noncomputable def kAg(f:Ev)(tg:Tg)(ê:ak)(Q:KF):KV:=fun v ab=>MX f tg v ê ab (Yq Q)
noncomputable def kSw(xs:List Str)(ê:ak)(Q:KF):KV:=fun v ab=>jK v fun x=>dT x fun l=>tJ xs.reverse l.reverse ê (kEs ab (Yq Q))
noncomputable def kAu(x:Str)(op:Op)(a:Int)(ê:ak)(Q:KF):KV:=fun w ab=>jK w fun y=>dI y fun b=>Hk op a b fun z=>Q .next (jb x (.d (.int z)) ê) ab
noncomputable def Yr(a:Str)(op:Op)(v x:ag)(ab:St)(ê:ak)(Q:KF):KV:=fun w au=>jK x fun x=>dI x fun x=>jK w fun y=>dI y fun y=>Hk op x y fun z=>xK v ab au (og v a (.d (.int z)) au (kE ê (Yq Q)))
noncomputable def Ys(f:Ev)(e:E)(a:Str)(op:Op)(v:ag)(ab:St)(ê:ak)(Q:KF):ag->Prop:=fun x=>f e ê ab (Yr a op v x ab ê Q)
noncomputable def Yt(f:Ev)(e:E)(a:Str)(op:Op)(ê:ak)(Q:KF):KV:=fun v ab=>Br v a ab (Ys f e a op v ab ê Q)
noncomputable def kIt(h:Ex)(a b:List T)(ê:ak)(Q:KF):KB:=fun b' ab=>match b' with
 |true=>gC h a ê ab Q
 |false=>gC h b ê ab Q
noncomputable def kFor(h:Ex)(sC:List Str)(b:List T)(ê:ak)(Q:KF):List D->Option (Nat×List D)->St->Prop:=fun xs w ab=>forL h sC b w xs ê ab Q
noncomputable def ex(G:Own)(C:Cl):Nat->Ex
 |0,_,_,_,_=>False
 |n+1,t,ê,σ,Q=>match t with
  |.expr e=>ev G C n e ê σ (kX ê Q)
  |.pass=>Q .next ê σ
  |.cont=>Q .cont ê σ
  |.ret e=>match e with
   |none=>Q (.ret (.d .none)) ê σ
   |some e=>ev G C n e ê σ (kR1 ê Q)
  |.asg tg e=>ev G C n e ê σ (kAg (ev G C n) tg ê Q)
  |.MF xs e=>ev G C n e ê σ (kSw xs ê Q)
  |.aug x op e=>oS (dF x ê) fun v=>jK v fun y=>dI y fun a=>ev G C n e ê σ (kAu x op a ê Q)
  |.DU o a op e=>ev G C n o ê σ (Yt (ev G C n) e a op ê Q)
  |.fM c a b=>DY (ev G C n) G.tab n c ê σ (kIt (ex G C n) a b ê Q)
  |.Qg c b=>zi (DY (ev G C n) G.tab n c) (ex G C n) b DX ê σ Q
  |.gQ sC it b=>mA (ev G C n) it ê σ (kFor (ex G C n) sC b ê Q)
  |.no=>False
noncomputable def Cd(G:Own)(P:Defs):Nat->Cl
 |0,_,_,_,_=>False
 |d+1,f,vs,σ,Q=>match Nat.beq (P.par f).length vs.length with
  |true=>gC (ex G (Cd G P d) 60) (P.code f) ((P.par f).zip vs) σ (fS Q)
  |false=>False
end
end jD
namespace jD
open PySem PySem.W PySem.Calls PyProof.Rows
section
set_option genCtorIdx false
structure Wd where
 prog:Program
 w:World
 h₀:Heap
 K:Frag
 fa:Nat->Addr
 ca:Nat->Addr
 sa:Addr
 mg:Str->Option Value
 mb:Str->Option Value
set_option genCtorIdx true in
inductive Tag where
 |no|fr|b (i:Nat)|t (i:Nat)
deriving DecidableEq
structure Gh where
 B:Heap
 O:Addr->Tag
 lb:List (Option (Addr×Addr))
 lt:List Addr
noncomputable def JK:Tag->Prop
 |.no=>True
 |.fr=>True
 |_=>False
noncomputable def dQ(B:Heap)(x:D)(v:Value):Prop:=∃as,Reads B v x as
noncomputable def Bv(B:Heap):List (Str×D)->List DictEntry->Prop
 |[],[]=>True
 |p::l,e::es=>(∃t,e.key=.str p.1 t)/\dQ B p.2 e.val/\Bv B l es
 |_,_=>False
noncomputable def bG(W:Wd)(g:Gh):ag->Value->Prop
 |.d x,v=>dQ g.B x v
 |.fn f,v=>v=.ref (W.fa f)
 |.ob k l,v=>∃a dx es n,v=.ref a/\g.B.get? a=some (instObj (W.ca k) dx)/\g.B.get? dx=some (dictOf es n)/\Bv g.B l es
 |.b i,v=>∃p,aq g.lb i=some (some p)/\v=.ref p.1
 |.t i,v=>∃a,aq g.lt i=some a/\v=.ref a
 |.g,v=>v=.ref W.sa
noncomputable def cc(W:Wd)(g:Gh):List ag->List Value->Prop
 |[],[]=>True
 |x::l,v::vs=>bG W g x v/\cc W g l vs
 |_,_=>False
noncomputable def gh(W:Wd)(g:Gh):List (Str×ag)->List (Str×Value)->Prop
 |[],[]=>True
 |p::l,q::vs=>q.1=p.1/\bG W g p.2 q.2/\gh W g l vs
 |_,_=>False
noncomputable def nX(W:Wd)(g:Gh):List (Str×ag)->List DictEntry->Prop
 |[],[]=>True
 |p::l,e::es=>(∃t,e.key=.str p.1 t)/\bG W g p.2 e.val/\nX W g l es
 |_,_=>False
noncomputable abbrev eA(ws:List Value)(n:Nat):Obj:={cls:=.type "list",data:=.seq ws.toArray n}
noncomputable def dr(W:Wd)(g:Gh)(h:Heap)(tag:Tag):aL->(Addr×Addr)->Prop
 |.list c r,p=>g.O p.1=tag/\∃ws n,h.get? p.1=some (eA ws n)/\cc W g (items c r) ws
 |.dict l,p=>g.O p.1=tag/\∃gM,Heap.DictOf (strKind W.prog W.w) h p.1 gM/\gh W g l gM
 |.inst k l,p=>g.O p.1=tag/\g.O p.2=tag/\p.1≠p.2/\h.get? p.1=some (instObj (W.ca k) p.2)/\∃es n,h.get? p.2=some (dictOf es n)/\nX W g l es
 |.yu x,p=>dQ g.B x (.ref p.1)
structure Inv(W:Wd)(g:Gh)(σ:St)(h:Heap):Prop where
 fT:∀a o,W.h₀.get? a=some o->g.B.get? a=some o
 gP:∀a o,g.B.get? a=some o->h.get? a=some o
 lO:∀a o,g.B.get? a=some o->g.O a=.no
 live:∀a,h.get? a=none->g.O a=.no
 qV:g.lb.length=σ.base.length
 qm:g.lt.length=σ.temps.length
 cb:∀i o,aq σ.base i=some (some o)->∃p,aq g.lb i=some (some p)/\dr W g h (.b i) o p
 cn:∀i,aq σ.base i=some none->aq g.lb i=some none
 ct:∀i o,aq σ.temps i=some o->∃a,aq g.lt i=some a/\dr W g h (.t i) o (a,a)/\(∀k l,o≠.inst k l)
 sb:∀i o,aq σ.base i=some (some o)->DV o=true
 DZ:∀i c r,aq σ.temps i=some (.list c r)->kB c=true
 D1:∀i l,aq σ.temps i=some (.dict l)->∃l',p8 l=some l'
structure gf(g:Gh)(σ:St)(h:Heap)(g':Gh)(aF:St)(h':Heap):Prop where
 bm:∀a o,g.B.get? a=some o->g'.B.get? a=some o
 fo:∀a o,h.get? a=some o->JK (g.O a)->h'.get? a=some o/\g'.O a=g.O a/\g'.B.get? a=g.B.get? a
 co:∀a o,h.get? a=some o->¬JK (g.O a)->(∃o',h'.get? a=some o')/\(g'.O a=g.O a\/g'.O a=.no)
 lb:∀i p,aq g.lb i=some (some p)->(Bg i=true->aF.gen=σ.gen)->aq g'.lb i=some (some p)
 lt:∀i a,aq g.lt i=some a->aq g'.lt i=some a
 gm:σ.gen<=aF.gen
theorem gf.refl(g:Gh)(σ:St)(h:Heap):gf g σ h g σ h:=
 ⟨fun _ _ e=>e,fun _ _ e _=>⟨e,rfl,rfl⟩,fun _ o e _=>⟨⟨o,e⟩,.inl rfl⟩,fun _ _ e _=>e,fun _ _ e=>e,Nat.le_refl _⟩
theorem gf.trans{g cD ve:Gh}{σ ab au:St}{h jE sD:Heap}(a:gf g σ h cD ab jE)(b:gf cD ab jE ve au sD):gf g σ h ve au sD where
 bm x o e:=b.bm x o (a.bm x o e)
 fo x o e f:=by
  refine n7 (a.fo x o e f) fun e1 o1 b1=>?_;refine n7 (b.fo x o e1 (o1▸f)) fun e2 o2 b2=>?_;exact⟨e2,o2.trans o1,b2.trans b1⟩
 co x o e f:=by
  obtain⟨⟨o',e1⟩,o1⟩:=a.co x o e f;rcases o1 with o1|o1
  ·obtain⟨q,o2⟩:=b.co x o' e1 (o1▸f);exact⟨q,o2.imp (fun z=>z.trans o1) id⟩
  ·refine n7 (b.fo x o' e1 (o1▸trivial)) fun e2 o2 _=>?_;exact⟨⟨_,e2⟩,.inr (o2.trans o1)⟩
 lb i p e v:=by
  have h1:Bg i=true->ab.gen=σ.gen:=fun q=>Nat.le_antisymm (Nat.le_trans b.gm (Nat.le_of_eq (v q))) a.gm;exact b.lb i p (a.lb i p e h1) fun q=>(v q).trans (h1 q).symm
 lt i x e:=b.lt i x (a.lt i x e)
 gm:=Nat.le_trans a.gm b.gm
theorem dQ.mono{B B':Heap}(hb:∀a o,B.get? a=some o->B'.get? a=some o){x:D}{v:Value}(r:dQ B x v):dQ B' x v:=
 let⟨as,q⟩:=r;⟨as,Reads.keeps hb q⟩
theorem Bv.mono{B B':Heap}(hb:∀a o,B.get? a=some o->B'.get? a=some o):∀{l:List (Str×D)} {es:List DictEntry},Bv B l es->Bv B' l es
 |[],[],_=>trivial
 |_::_,_::_,⟨a,b,c⟩=>⟨a,b.mono hb,c.mono hb⟩
 |[],_::_,h=>h.elim
 |_::_,[],h=>h.elim
section
variable{W:Wd}{g g':Gh}{σ aF:St}{h h':Heap}
theorem bG.mono(P:gf g σ h g' aF h'):∀{m:ag} {v:Value},bG W g m v->(kz m=true->aF.gen=σ.gen)->bG W g' m v:=by
 intro m v r hv
 induction m using ag.casesOn with
 |d _=>exact dQ.mono P.bm r
 |ob _ _=>exact Jy r fun a dx es n e h1 h2 h3=>⟨a,dx,es,n,e,P.bm _ _ h1,P.bm _ _ h2,h3.mono P.bm⟩
 |b i=>exact bR r fun p e ev=>⟨p,P.lb i p e hv,ev⟩
 |t i=>exact bR r fun a e ev=>⟨a,P.lt i a e,ev⟩
 |_=>exact r
end
theorem bX{α:Type}:∀(l:List α) (i j:Nat) (x:α),aq (setAt l i x) j=if i=j then(aq l j).map fun _=>x else aq l j
 |[],i,j,x=>by by_cases h:i=j<;>simp[setAt,aq,h]
 |y::l,0,0,x=>rfl
 |y::l,0,j+1,x=>by simp[setAt,aq]
 |y::l,i+1,0,x=>by simp[setAt,aq]
 |y::l,i+1,j+1,x=>by
  show aq (setAt l i x) j=_;refine az (bX l i j x) ?_;by_cases h:i=j<;>simp[h,aq]
theorem fh{α:Type}:∀(l:List α) (i:Nat) (x:α),(setAt l i x).length=l.length
 |[],_,_=>rfl
 |_::_,0,_=>rfl
 |_::l,i+1,x=>congrArg (·+1) (fh l i x)
theorem eC{α:Type}:∀(l:List α) (x:α) (j:Nat),aq (l++[x]) j=if j=l.length then some x else aq l j
 |[],x,0=>rfl
 |[],x,j+1=>by simp[aq]
 |y::l,x,0=>by simp[aq]
 |y::l,x,j+1=>by
  show aq (l++[x]) j=_;refine az (eC l x j) ?_;by_cases h:j=l.length<;>simp[h,aq]
theorem mB{α:Type}:∀{l:List α} {i:Nat} {x:α},aq l i=some x->i<l.length
 |_::_,0,_,_=>Nat.succ_pos _
 |_::_,_+1,_,h=>Nat.succ_lt_succ (mB (l:=_) h)
theorem vf{α:Type}:∀(l:List α) (i:Nat),aq l i=l[i]?
 |[],_=>rfl
 |_::_,0=>rfl
 |_::l,i+1=>vf l i
theorem Ga:∀{a b:List Nat},Qf a b=true↔a=b
 |[],[]=>by simp[Qf]
 |[],_::_=>by simp[Qf]
 |_::_,[]=>by simp[Qf]
 |x::xs,y::ys=>by
  unfold Qf;cases q:Nat.beq x y with
  |true=>
   have:x=y:=Nat.eq_of_beq_eq_true q;subst this;simp[Ga (a:=xs) (b:=ys)]
  |false=>
   have:x≠y:=Nat.ne_of_beq_eq_false q;simp[this]
theorem bj{a b:Str}:fb a b=true↔a=b:=by
 unfold fb;rw[Ga];constructor
 ·intro h;cases a;cases b;simp only[Str.mk.injEq];exact Array.toList_inj.mp h
 ·intro h;rw[h]
theorem iX{a b:Str}:fb a b=false↔a≠b:=by
 rw[<-Bool.not_eq_true,bj]
theorem Bw(a:Str):fb a a=true:=bj.mpr rfl
theorem vg{α:Type}(x y:Str)(v:α):∀l:List (Str×α),dF y (jb x v l)=if x=y then some v else dF y l
 |[]=>by
  by_cases h:x=y
  ·subst h;simp[jb,dF,Bw]
  ·simp[jb,dF,iX.mpr h,h]
 |p::l=>by
  unfold jb;cases q:fb p.1 x with
  |true=>
   have e:=bj.mp q;by_cases h:x=y
   ·subst h;simp[dF,q]
   ·have:fb p.1 y=false:=iX.mpr (by rw[e];exact h);simp[dF,this,h]
  |false=>
   have e:=iX.mp q;have ih:=vg x y v l;by_cases h:x=y
   ·subst h;simp[dF,q,ih]
   ·cases r:fb p.1 y<;>simp[dF,r,ih,h]
noncomputable def vh:Obj:={cls:=.none,data:=.freed}
noncomputable def jF(h:Heap)(a:Nat)(o:Obj):Heap:=⟨((h.objs.toList++List.replicate (a+1-h.objs.size) vh).set a o).toArray,h.life⟩
theorem gx(h:Heap)(a:Nat)(o:Obj)(ho:o.isFreed=false)(b:Nat):(jF h a o).get? b=if b=a then some o else h.get? b:=by
 apply Option.ext;intro o';rw[Heap.get?_some_iff];show(((h.objs.toList++List.replicate (a+1-h.objs.size) vh).set a o).toArray[b]?=some o'/\_)↔_;refine az (List.getElem?_toArray) ?_;refine az (List.getElem?_set) ?_;by_cases hb:a=b
 ·subst hb;have p9:a<(h.objs.toList++List.replicate (a+1-h.objs.size) vh).length:=by
   refine az (List.length_append) ?_;refine az (List.length_replicate) ?_;refine az (Array.length_toList) ?_;exact ai (DR (a+1) (h.objs.size))
  refine az (if_pos rfl) ?_;refine az (if_pos p9) ?_;refine az (if_pos rfl) ?_;constructor
  ·rintro ⟨e,_⟩;exact e
  ·intro e;rcases e with _|_;exact⟨rfl,ho⟩
 ·have Bx:¬b=a:=fun e=>hb e.symm;rw[if_neg hb,if_neg Bx,Heap.get?_some_iff,List.getElem?_append];by_cases p9:b<h.objs.toList.length
  ·rw[if_pos p9,Array.getElem?_toList]
  ·refine az (if_neg p9) ?_;have e1:h.objs[b]?=none:=by
    rw[Array.getElem?_eq_none_iff];rw[Array.length_toList]at p9;exact Nat.le_of_not_lt p9
   refine az (e1) ?_;constructor
   ·rintro ⟨e,f⟩
    rw[List.getElem?_replicate]at e;by_cases q:b-h.objs.toList.length<a+1-h.objs.size
    ·rw[if_pos q]at e;rcases e with _|_;rcases f with _|_
    ·rw[if_neg q]at e;rcases e with _|_
   ·rintro ⟨e,_⟩;rcases e with _|_
theorem fi{h:Heap}{a:Nat}{o:Obj}(ho:o.isFreed=false)(hn:h.get? a=none):∀b o',h.get? b=some o'->(jF h a o).get? b=some o':=by
 intro b o' e;rw[gx h a o ho];by_cases hb:b=a
 ·subst hb;rw[hn]at e;rcases e with _|_
 ·rw[if_neg hb];exact e
theorem fU{h:Heap}{a:Nat}{o:Obj}(ho:o.isFreed=false):(jF h a o).get? a=some o:=by
 rw[gx h a o ho,if_pos rfl]
theorem ll{h:Heap}{motive:List Value->List D->Prop}(h0:motive [] [])(h1:∀v vs x xs as bs,Reads h v x as->ReadsAll h vs xs bs->motive vs xs->motive (v::vs) (x::xs)):∀{vs:List Value} {xs:List D} {as:List Addr},ReadsAll h vs xs as->motive vs xs
 |_,_,_,.nil=>h0
 |_,_,_,.cons a r=>h1 _ _ _ _ _ _ a r (ll h0 h1 r)
end
section
variable{W:Wd}{g g':Gh}{σ aF:St}{h h':Heap}
noncomputable def Yu(env:Env)(h:Heap)(x:Str)(v:Value):Prop:=
 (env.kindOf x=some .local/\∃m,h.Ns env.locals m/\m x=some v)\/
 ((env.kindOf x=some .cell\/env.kindOf x=some .free)/\∃c,env.cells.lookup x=some c/\h.IsCell c (some v))
structure aS(W:Wd)(g:Gh)(env:Env)(ê:ak)(h:Heap):Prop where
 kind:env.scope.kind=.function
 fr:g.O env.locals=.fr
 ns:∃m,h.Ns env.locals m
 vars:∀x m,dF x ê=some m->∃v,Yu env h x v/\bG W g m v
 cells:∀x c,env.cells.lookup x=some c->g.O c=.fr/\c≠env.locals/\∃vo,h.IsCell c vo
 inj:∀x y c,env.cells.lookup x=some c->env.cells.lookup y=some c->x=y
 glob:env.globals=mainGlobals/\env.builtins=builtinsNs
 all:∀x,(env.kindOf x=some .cell\/env.kindOf x=some .free)->∃c,env.cells.lookup x=some c
theorem Ns.at{h h':Heap}{a:Addr}{m:Str->Option Value}(n:h.Ns a m)(k:∀o,h.get? a=some o->h'.get? a=some o):h'.Ns a m:=
 let⟨o,es,ep,ho,r⟩:=n;⟨o,es,ep,k o ho,r⟩
theorem IsCell.at{h h':Heap}{a:Addr}{v:Option Value}(n:h.IsCell a v)(k:∀o,h.get? a=some o->h'.get? a=some o):h'.IsCell a v:=
 let⟨o,ho,r⟩:=n;⟨o,k o ho,r⟩
theorem DictOf.at{K:Type}[DecidableEq K]{prog:Program}{w:World}{knd:PySem.KeyKind prog w K}{h h':Heap}{a:Addr}{gM:List (K×Value)}(n:Heap.DictOf knd h a gM)(k:∀o,h.get? a=some o->h'.get? a=some o):Heap.DictOf knd h' a gM:=
 let⟨o,es,ep,ho,r⟩:=n;⟨o,es,ep,k o ho,r⟩
theorem vi{x:Str}{m:ag}:∀{ê:ak},dF x ê=some m->kz m=true->iP ê=true
 |p::l,e,hv=>by
  unfold dF at e;unfold iP;split at e
  ·rcases e with _|_;rw[hv];rfl
  ·rw[vi (ê:=l) e hv,Bool.or_true]
theorem aS.post{env:Env}{ê:ak}(C:aS W g env ê h)(P:gf g σ h g' aF h')(hv:iP ê=true->aF.gen=σ.gen):aS W g' env ê h':=by
 have kl:∀o,h.get? env.locals=some o->h'.get? env.locals=some o:=fun o e=>(P.fo _ o e (by rw[C.fr];trivial)).1;have kc:∀x c,env.cells.lookup x=some c->∀o,h.get? c=some o->h'.get? c=some o:=fun x c e o q=>(P.fo _ o q (by rw[(C.cells x c e).1];trivial)).1;refine⟨C.kind,?_,?_,fun x m e=>?_,fun x c e=>?_,C.inj,C.glob,C.all⟩
 ·refine Tc (C.ns) fun m o _ _ ho _=>?_;rw[(P.fo _ o ho (by rw[C.fr];trivial)).2.1];exact C.fr
 ·obtain⟨m,n⟩:=C.ns;exact⟨m,Ns.at n kl⟩
 ·refine bR (C.vars x m e) fun v hh r=>?_;refine⟨v,?_,r.mono P fun q=>hv (vi e q)⟩;rcases hh with⟨k,m',n,e'⟩|⟨k,c,e',ic⟩
  ·exact .inl ⟨k,m',Ns.at n kl,e'⟩
  ·exact .inr ⟨k,c,e',IsCell.at ic (kc x c e')⟩
 ·obtain⟨o1,ne,vo,ic⟩:=C.cells x c e;refine bR (id ic) fun o ho _=>?_;refine⟨?_,ne,vo,IsCell.at ic (kc x c e)⟩;rw[(P.fo _ o ho (by rw[o1];trivial)).2.1];exact o1
noncomputable abbrev RM(W:Wd)(g g':Gh):Prop:=∀m v,bG W g m v->bG W g' m v
theorem cc.rm(r:RM W g g'):∀{l:List ag} {vs:List Value},cc W g l vs->cc W g' l vs:=by
 intro l0
 induction l0 with
 |nil=>
  intro l1;rcases l1 with _|⟨y0,nR⟩
  ·intro _;exact trivial
  ·intro z;exact z.elim
 |cons x0 Jq ih=>
  intro l1;rcases l1 with _|⟨y0,nR⟩
  ·intro z;exact z.elim
  ·rintro ⟨a,b⟩
   exact⟨r _ _ a,ih b⟩
theorem gh.rm(r:RM W g g'):∀{l:List (Str×ag)} {vs:List (Str×Value)},gh W g l vs->gh W g' l vs:=by
 intro l0
 induction l0 with
 |nil=>
  intro l1;rcases l1 with _|⟨y0,nR⟩
  ·intro _;exact trivial
  ·intro z;exact z.elim
 |cons x0 Jq ih=>
  intro l1;rcases l1 with _|⟨y0,nR⟩
  ·intro z;exact z.elim
  ·rintro ⟨e,a,b⟩
   exact⟨e,r _ _ a,ih b⟩
theorem nX.rm(r:RM W g g'):∀{l:List (Str×ag)} {vs:List DictEntry},nX W g l vs->nX W g' l vs:=by
 intro l0
 induction l0 with
 |nil=>
  intro l1;rcases l1 with _|⟨y0,nR⟩
  ·intro _;exact trivial
  ·intro z;exact z.elim
 |cons x0 Jq ih=>
  intro l1;rcases l1 with _|⟨y0,nR⟩
  ·intro z;exact z.elim
  ·rintro ⟨e,a,b⟩
   exact⟨e,r _ _ a,ih b⟩
theorem dr.rm{tag ng:Tag}{o:aL}{p:Addr×Addr}(c:dr W g h tag o p)(r:RM W g g')(t1:g.O p.1=tag->g'.O p.1=ng)(t2:g.O p.2=tag->g'.O p.2=ng)
  (k1:g.O p.1=tag->∀o,h.get? p.1=some o->h'.get? p.1=some o) (k2:g.O p.2=tag->∀o,h.get? p.2=some o->h'.get? p.2=some o):dr W g' h' ng o p:=by
 induction o using aL.casesOn with
 |list c' r'=>
  refine bc fun bf=>?_;obtain⟨o1,ws,n,hg,hr⟩:=c;refine bf ?_;exact⟨t1 o1,ws,n,k1 o1 _ hg,hr.rm r⟩
 |dict l=>
  refine bc fun bf=>?_;obtain⟨o1,gM,hd,hr⟩:=c;refine bf ?_;exact⟨t1 o1,gM,DictOf.at hd (k1 o1),hr.rm r⟩
 |inst k l=>
  refine bc fun bf=>?_;obtain⟨o1,o2,ne,hg,es,n,hd,hr⟩:=c;refine bf ?_;exact⟨t1 o1,t2 o2,ne,k1 o1 _ hg,es,n,k2 o2 _ hd,hr.rm r⟩
 |yu x=>exact r (.d x) _ c
theorem RM.same{O:Addr->Tag}:RM W g {g with O:=O}:=fun m v r=>by rcases m with _|_<;>exact r
theorem Inv.ki(I:Inv W g σ h)(k:∀b o,h.get? b=some o->h'.get? b=some o):Inv W g σ h'/\gf g σ h g σ h':=by
 refine⟨⟨I.fT,fun a o e=>k _ _ (I.gP a o e),I.lO,fun a e=>I.live a ?_,I.qV,I.qm,fun i o e=>?_,I.cn,fun i o e=>?_,I.sb,I.DZ,I.D1⟩,⟨fun _ _ e=>e,fun a o e _=>⟨k _ _ e,rfl,rfl⟩,fun a o e _=>⟨⟨o,k _ _ e⟩,.inl rfl⟩,fun _ _ e _=>e,fun _ _ e=>e,Nat.le_refl _⟩⟩
 ·cases q:h.get? a with
  |none=>rfl
  |some o=>rw[k _ _ q]at e;rcases e with _|_
 ·refine bR (I.cb i o e) fun p e1 c=>?_;exact⟨p,e1,c.rm (fun _ _ r=>r) id id (fun _=>k _) (fun _=>k _)⟩
 ·refine ja (I.ct i o e) fun a e1 c z=>?_;exact⟨a,e1,c.rm (fun _ _ r=>r) id id (fun _=>k _) (fun _=>k _),z⟩
theorem Inv.MY(I:Inv W g σ h)(k:∀b o,h.get? b=some o->h'.get? b=some o){a:Addr}{ob:Obj}(hn:h.get? a=none)(ha:h'.get? a=some ob)(hf:ob.isFreed=false):
  Inv W {g with B:=jF g.B a ob} σ h'/\gf g σ h {g with B:=jF g.B a ob} σ h':=by
 have WU:g.B.get? a=none:=by
  cases q:g.B.get? a with
  |none=>rfl
  |some o=>have:=I.gP _ _ q;rw[hn]at this;rcases this with _|_
 have bm:∀b o,g.B.get? b=some o->(jF g.B a ob).get? b=some o:=fi hf WU;have rm:RM W g {g with B:=jF g.B a ob}:=fun m v r=>by
  induction m using ag.casesOn with
  |d x=>exact dQ.mono bm r
  |ob k' l=>obtain⟨a',dx,es,n,e,h1,h2,h3⟩:=r;exact⟨a',dx,es,n,e,bm _ _ h1,bm _ _ h2,h3.mono bm⟩
  |_=>exact r
 refine⟨⟨fun b o e=>bm _ _ (I.fT b o e),fun b o e=>?_,fun b o e=>?_,fun b e=>I.live b ?_,I.qV,I.qm,fun i o e=>?_,I.cn,fun i o e=>?_,I.sb,I.DZ,I.D1⟩,
  ⟨bm,fun b o e _=>⟨k _ _ e,rfl,?_⟩,fun b o e _=>⟨⟨o,k _ _ e⟩,.inl rfl⟩,fun _ _ e _=>e,fun _ _ e=>e,Nat.le_refl _⟩⟩
 ·have e:(jF g.B a ob).get? b=some o:=e;rw[gx _ _ _ hf]at e;by_cases hb:b=a
  ·subst hb;rw[if_pos rfl]at e;rcases e with _|_;exact ha
  ·rw[if_neg hb]at e;exact k _ _ (I.gP _ _ e)
 ·have e:(jF g.B a ob).get? b=some o:=e;rw[gx _ _ _ hf]at e;by_cases hb:b=a
  ·subst hb;exact I.live _ hn
  ·rw[if_neg hb]at e;exact I.lO _ _ e
 ·cases q:h.get? b with
  |none=>rfl
  |some o=>rw[k _ _ q]at e;rcases e with _|_
 ·refine bR (I.cb i o e) fun p e1 c=>?_;exact⟨p,e1,c.rm rm id id (fun _=>k _) (fun _=>k _)⟩
 ·refine ja (I.ct i o e) fun a' e1 c z=>?_;exact⟨a',e1,c.rm rm id id (fun _=>k _) (fun _=>k _),z⟩
 ·show(jF g.B a ob).get? b=_;rw[gx _ _ _ hf];by_cases hb:b=a
  ·subst hb;rw[hn]at e;rcases e with _|_
  ·rw[if_neg hb]
noncomputable def cM(O:Addr->Tag)(a:Addr)(t:Tag):Addr->Tag:=fun b=>if b=a then t else O b
theorem cZ(O:Addr->Tag)(a:Addr)(t:Tag):cM O a t a=t:=if_pos rfl
theorem cF{O:Addr->Tag}{a b:Addr}{t:Tag}(hb:b≠a):cM O a t b=O b:=if_neg hb
theorem iM{σ:St}{i:Nat}{o:aL}:σ.n4 i=some o↔aq σ.base i=some (some o):=by
 unfold St.n4;constructor
 ·intro h;split at h
  ·rcases h with _|_;assumption
  ·rcases h with _|_
 ·intro h;rw[h]
end
section
variable{W:Wd}{g g':Gh}{σ aF:St}{h h':Heap}
theorem By{h h':Heap}(k:∀b o,h.get? b=some o->h'.get? b=some o){a:Addr}(e:h'.get? a=none):h.get? a=none:=by
 cases q:h.get? a with
 |none=>rfl
 |some o=>rw[k _ _ q]at e;rcases e with _|_
theorem Inv.Be(I:Inv W g σ h)(k:∀b o,h.get? b=some o->h'.get? b=some o){a:Addr}{o:aL}(hn:h.get? a=none)(ha:∃ob,h'.get? a=some ob)
  (hc:∀g',RM W g g'->g'.O a=.t σ.temps.length->dr W g' h' (.t σ.temps.length) o (a,a)) (hi:∀k l,o≠.inst k l)
  (hl:∀c r,o=.list c r->kB c=true) (hd:∀l,o=.dict l->∃l',p8 l=some l'):
  ∃g',RM W g g'/\aq g'.lt σ.temps.length=some a/\Inv W g' {σ with temps:=σ.temps++[o]} h'/\gf g σ h g' {σ with temps:=σ.temps++[o]} h':=by
 have ho:=I.live a hn;have rm:RM W g {g with O:=cM g.O a (.t σ.temps.length),lt:=g.lt++[a]}:=fun m v r=>by
  induction m using ag.casesOn with
  |t i=>
   refine bR (r) fun b e ev=>?_;exact⟨b,by show aq (g.lt++[a]) i=_;rw[eC,if_neg (Nat.ne_of_lt (mB e))];exact e,ev⟩
  |_=>exact r
 have on:∀b o',h.get? b=some o'->cM g.O a (.t σ.temps.length) b=g.O b:=fun b o' e=>cF fun q=>by subst q;rw[hn]at e;rcases e with _|_
 have lift:∀{tag:Tag} {o:aL} {p:Addr×Addr},tag≠.no->dr W g h tag o p->dr W {g with O:=cM g.O a (.t σ.temps.length),lt:=g.lt++[a]} h' tag o p:=fun ht c=>
  c.rm rm (fun q=>by show cM _ _ _ _=_;rw[cF fun z=>?_];exact q;rw[z,ho]at q;exact ht q.symm)
   (fun q=>by show cM _ _ _ _=_;rw[cF fun z=>?_];exact q;rw[z,ho]at q;exact ht q.symm) (fun _=>k _) (fun _=>k _)
 refine⟨{g with O:=cM g.O a (.t σ.temps.length),lt:=g.lt++[a]},rm,?_,?_,?_⟩
 ·show aq (g.lt++[a]) _=_;rw[eC,if_pos I.qm.symm]
 ·refine⟨I.fT,fun b o' e=>k _ _ (I.gP b o' e),fun b o' e=>?_,fun b e=>?_,I.qV,?_,fun i o' e=>?_,I.cn,fun i o' e=>?_,I.sb,fun i c r e=>?_,fun i l e=>?_⟩
  ·show cM _ _ _ _=_;rw[cF fun z=>?_];exact I.lO _ _ e;subst z;have:=I.gP _ _ e;rw[hn]at this;rcases this with _|_
  ·show cM _ _ _ _=_;rw[cF fun z=>?_];exact I.live _ (By k e);subst z;obtain⟨ob,q⟩:=ha;rw[q]at e;rcases e with _|_
  ·show(g.lt++[a]).length=(σ.temps++[o]).length;rw[List.length_append,List.length_append,I.qm];rfl
  ·refine bR (I.cb i o' e) fun p e1 c=>?_;exact⟨p,e1,lift (by intro z;rcases z with _|_) c⟩
  ·have e:aq (σ.temps++[o]) i=some o':=e;rw[eC]at e;by_cases MZ:i=σ.temps.length
   ·rw[if_pos MZ]at e;rcases e with _|_;subst MZ
    refine⟨a,?_,hc _ rm (cZ ..),hi⟩;show aq (g.lt++[a]) _=_;rw[eC,if_pos I.qm.symm]
   ·rw[if_neg MZ]at e;refine ja (I.ct i o' e) fun b e1 c z=>?_;refine⟨b,?_,lift (by intro z;rcases z with _|_) c,z⟩;show aq (g.lt++[a]) _=_;rw[eC,if_neg (Nat.ne_of_lt (mB e1))];exact e1
  ·have e:aq (σ.temps++[o]) i=some (.list c r):=e;rw[eC]at e;by_cases MZ:i=σ.temps.length
   ·rw[if_pos MZ]at e;rcases e with _|_;exact hl _ _ rfl
   ·rw[if_neg MZ]at e;exact I.DZ _ _ _ e
  ·have e:aq (σ.temps++[o]) i=some (.dict l):=e;rw[eC]at e;by_cases MZ:i=σ.temps.length
   ·rw[if_pos MZ]at e;rcases e with _|_;exact hd _ rfl
   ·rw[if_neg MZ]at e;exact I.D1 _ _ e
 ·refine⟨fun _ _ e=>e,fun b o' e _=>⟨k _ _ e,on _ _ e,rfl⟩,fun b o' e _=>⟨⟨o',k _ _ e⟩,.inl (on _ _ e)⟩,fun _ _ e _=>e,fun i b e=>?_,Nat.le_refl _⟩;show aq (g.lt++[a]) i=_;rw[eC,if_neg (Nat.ne_of_lt (mB e))];exact e
theorem Inv.n4(I:Inv W g σ h)(k:∀b o,h.get? b=some o->h'.get? b=some o){i:Nat}{p:Addr×Addr}{o:aL}(hb:aq σ.base i=some none)(Qq:h.get? p.1=none)(Bh:h.get? p.2=none)
  (Hm:∃ob,h'.get? p.1=some ob) (ha2:∃ob,h'.get? p.2=some ob)
  (hc:∀g',RM W g g'->g'.O p.1=.b i->g'.O p.2=.b i->dr W g' h' (.b i) o p) (hT:DV o=true) {γ:Nat} (hγ:σ.gen<=γ):
  ∃g',RM W g g'/\aq g'.lb i=some (some p)/\Inv W g' {σ.lj i (some o)with gen:=γ} h'/\gf g σ h g' {σ.lj i (some o)with gen:=γ} h':=by
 have ho1:=I.live _ Qq;have xE:=I.live _ Bh;have hl:=I.cn i hb;have rm:RM W g {g with O:=cM (cM g.O p.1 (.b i)) p.2 (.b i),lb:=setAt g.lb i (some p)}:=fun m v r=>by
  induction m using ag.casesOn with
  |b j=>
   refine bR (r) fun q e ev=>?_;refine⟨q,?_,ev⟩;show aq (setAt g.lb i (some p)) j=_;rw[bX];by_cases lq:i=j
   ·subst lq;rw[hl]at e;rcases e with _|_
   ·rw[if_neg lq];exact e
  |_=>exact r
 have same:∀b,b≠p.1->b≠p.2->cM (cM g.O p.1 (.b i)) p.2 (.b i) b=g.O b:=fun b h1 h2=>by rw[cF h2,cF h1]
 have on:∀b o',h.get? b=some o'->cM (cM g.O p.1 (.b i)) p.2 (.b i) b=g.O b:=fun b o' e=>same b (fun q=>by subst q;rw[Qq]at e;rcases e with _|_) (fun q=>by subst q;rw[Bh]at e;rcases e with _|_);have tg:∀(tag:Tag) (b:Addr),tag≠.no->g.O b=tag->cM (cM g.O p.1 (.b i)) p.2 (.b i) b=tag:=fun tag b ht q=>by
  rw[same b (fun z=>?_) (fun z=>?_)];exact q
  ·rw[z,ho1]at q;exact ht q.symm
  ·rw[z,xE]at q;exact ht q.symm
 have lift:∀{tag:Tag} {o:aL} {q:Addr×Addr},tag≠.no->dr W g h tag o q->dr W {g with O:=cM (cM g.O p.1 (.b i)) p.2 (.b i),lb:=setAt g.lb i (some p)} h' tag o q:=fun ht c=>
  c.rm rm (tg _ _ ht) (tg _ _ ht) (fun _=>k _) (fun _=>k _)
 have p9:i<g.lb.length:=mB hl;have o1:cM (cM g.O p.1 (.b i)) p.2 (.b i) p.1=.b i:=by
  by_cases q:p.1=p.2
  ·rw[q];exact cZ ..
  ·rw[cF q];exact cZ ..
 have self:aq (setAt g.lb i (some p)) i=some (some p):=by rw[bX,if_pos rfl,hl];rfl
 refine⟨{g with O:=cM (cM g.O p.1 (.b i)) p.2 (.b i),lb:=setAt g.lb i (some p)},rm,self,?_,?_⟩
 ·refine⟨I.fT,fun b o' e=>k _ _ (I.gP b o' e),fun b o' e=>?_,fun b e=>?_,?_,I.qm,fun j o' e=>?_,fun j e=>?_,fun j o' e=>?_,fun j o' e=>?_,I.DZ,I.D1⟩
  ·show cM _ _ _ _=_;have e':=I.gP _ _ e;rw[on _ _ e'];exact I.lO _ _ e
  ·show cM _ _ _ _=_;rw[same b (fun z=>?_) (fun z=>?_)];exact I.live _ (By k e)
   ·subst z;obtain⟨ob,q⟩:=Hm;rw[q]at e;rcases e with _|_
   ·subst z;obtain⟨ob,q⟩:=ha2;rw[q]at e;rcases e with _|_
  ·show(setAt g.lb i (some p)).length=(setAt σ.base i (some o)).length;rw[fh,fh,I.qV]
  ·have e:aq (setAt σ.base i (some o)) j=some (some o'):=e;rw[bX]at e;by_cases lq:i=j
   ·subst lq;rw[if_pos rfl,hb]at e;rcases e with _|_
    exact⟨p,self,hc _ rm o1 (cZ ..)⟩
   ·rw[if_neg lq]at e;refine bR (I.cb j o' e) fun q e1 c=>?_;refine⟨q,?_,lift (by intro z;rcases z with _|_) c⟩;show aq (setAt g.lb i (some p)) j=_;rw[bX,if_neg lq];exact e1
  ·have e:aq (setAt σ.base i (some o)) j=some none:=e;rw[bX]at e;show aq (setAt g.lb i (some p)) j=_;rw[bX];by_cases lq:i=j
   ·subst lq;rw[if_pos rfl,hb]at e;rcases e with _|_
   ·rw[if_neg lq]at e⊢;exact I.cn j e
  ·refine ja (I.ct j o' e) fun b e1 c z=>?_;exact⟨b,e1,lift (by intro z;rcases z with _|_) c,z⟩
  ·have e:aq (setAt σ.base i (some o)) j=some (some o'):=e;rw[bX]at e;by_cases lq:i=j
   ·subst lq;rw[if_pos rfl,hb]at e;rcases e with _|_;exact hT
   ·rw[if_neg lq]at e;exact I.sb j o' e
 ·refine⟨fun _ _ e=>e,fun b o' e _=>⟨k _ _ e,on _ _ e,rfl⟩,fun b o' e _=>⟨⟨o',k _ _ e⟩,.inl (on _ _ e)⟩,fun j q e _=>?_,fun _ _ e=>e,hγ⟩;show aq (setAt g.lb i (some p)) j=_;rw[bX];by_cases lq:i=j
  ·subst lq;rw[hl]at e;rcases e with _|_
  ·rw[if_neg lq];exact e
theorem Inv.upd(I:Inv W g σ h){tag:Tag}{q:Addr}(hq:g.O q=tag)(ht:¬JK tag)(k:∀b o,b≠q->h.get? b=some o->h'.get? b=some o)(hl:∃ob,h'.get? q=some ob)
  (hlen:aF.base.length=σ.base.length) (T7:aF.temps.length=σ.temps.length) (Yv:aF.gen=σ.gen)
  (hb:∀i o,aq aF.base i=some o->aq σ.base i=some o\/(tag=.b i/\∃o' p,o=some o'/\aq g.lb i=some (some p)/\dr W g h' (.b i) o' p/\DV o'=true))
  (hbo:∀i o,aq aF.base i=some (some o)->aq σ.base i=some (some o)->tag=.b i->∃p,aq g.lb i=some (some p)/\dr W g h' (.b i) o p)
  (hc:∀i o,aq aF.temps i=some o->(aq σ.temps i=some o/\tag≠.t i)\/(tag=.t i/\∃a,aq g.lt i=some a/\dr W g h' (.t i) o (a,a)/\(∀k l,o≠.inst k l)/\(∀c r,o=.list c r->kB c=true)/\(∀l,o=.dict l->∃l',p8 l=some l'))):
  Inv W g aF h'/\gf g σ h g aF h':=by
 have lift:∀{ng:Tag} {o:aL} {p:Addr×Addr},ng≠tag->dr W g h ng o p->dr W g h' ng o p:=fun ne c=>
  c.rm (fun _ _ r=>r) id id (fun z o=>k _ o fun e=>ne (by rw[<-z,e,hq])) (fun z o=>k _ o fun e=>ne (by rw[<-z,e,hq]))
 have nn:∀b,h'.get? b=none->h.get? b=none:=fun b e=>by
  by_cases Bx:b=q
  ·subst Bx;obtain⟨ob,z⟩:=hl;rw[z]at e;rcases e with _|_
  ·cases z:h.get? b with
   |none=>rfl
   |some o=>rw[k _ _ Bx z]at e;rcases e with _|_
 refine⟨⟨I.fT,fun b o e=>k _ _ (fun z=>?_) (I.gP b o e),I.lO,fun b e=>I.live _ (nn b e),I.qV.trans hlen.symm,I.qm.trans T7.symm,fun i o e=>?_,fun i e=>?_,fun i o e=>?_,fun i o e=>?_,fun i c r e=>?_,fun i l e=>?_⟩,
  ⟨fun _ _ e=>e,fun b o e f=>⟨k _ _ (fun z=>?_) e,rfl,rfl⟩,fun b o e f=>⟨?_,.inl rfl⟩,fun _ _ e _=>e,fun _ _ e=>e,Nat.le_of_eq Yv.symm⟩⟩
 ·have:=I.lO _ _ e;rw[z,hq]at this;rw[this]at ht;exact ht trivial
 ·rcases hb i (some o) e with e'|⟨_,o',p,e',e1,c,_⟩
  ·refine bR (I.cb i o e') fun p e1 c=>?_;by_cases ti:tag=.b i
   ·exact hbo i o e e' ti
   ·exact⟨p,e1,lift (fun z=>ti z.symm) c⟩
  ·rcases e' with _|_;exact⟨p,e1,c⟩
 ·rcases hb i none e with e'|⟨_,o',p,e',_⟩
  ·exact I.cn i e'
  ·rcases e' with _|_
 ·rcases hc i o e with⟨e',ne⟩|⟨_,a,e1,c,z,_⟩
  ·refine ja (I.ct i o e') fun a e1 c z=>?_;exact⟨a,e1,lift (fun z=>ne z.symm) c,z⟩
  ·exact⟨a,e1,c,z⟩
 ·rcases hb i (some o) e with e'|⟨_,o',p,e',_,_,z⟩
  ·exact I.sb i o e'
  ·rcases e' with _|_;exact z
 ·rcases hc i _ e with⟨e',ne⟩|⟨_,a,e1,c',z,y,_⟩
  ·exact I.DZ i c r e'
  ·exact y c r rfl
 ·rcases hc i _ e with⟨e',ne⟩|⟨_,a,e1,c',z,_,y⟩
  ·exact I.D1 i l e'
  ·exact y l rfl
 ·rw[z,hq]at f;exact ht f
 ·by_cases Bx:b=q
  ·subst Bx;exact hl
  ·exact⟨o,k _ _ Bx e⟩
theorem Inv.M1(I:Inv W g σ h){i:Nat}{q:Addr}{p:Addr×Addr}{o:aL}(hp:aq g.lb i=some (some p))(hq:g.O q=.b i)(k:∀b o,b≠q->h.get? b=some o->h'.get? b=some o)(hl:∃ob,h'.get? q=some ob)
  (c:dr W g h' (.b i) o p) (hT:DV o=true):Inv W g (σ.lj i (some o)) h'/\gf g σ h g (σ.lj i (some o)) h':=by
 refine I.upd hq (fun z=>z) k hl (fh ..) rfl rfl (fun j o' e=>?_) (fun j o' e e' t=>?_) (fun j o' e=>.inl ⟨e,fun z=>by cases z⟩)
 ·have e:aq (setAt σ.base i (some o)) j=some o':=e;rw[bX]at e;by_cases lq:i=j
  ·subst lq;rw[if_pos rfl]at e;cases z:aq σ.base i with
   |none=>rw[z]at e;cases e
   |some w=>rw[z]at e;cases e;exact .inr ⟨rfl,o,p,rfl,hp,c,hT⟩
  ·rw[if_neg lq]at e;exact .inl e
 ·rcases t with _|_;have e:aq (setAt σ.base i (some o)) i=some (some o'):=e;rw[bX,if_pos rfl,e']at e;rcases e with _|_;exact⟨p,hp,c⟩
theorem Inv.Yw(I:Inv W g σ h){i:Nat}{q:Addr}{o:aL}(hp:aq g.lt i=some q)(hq:g.O q=.t i)(k:∀b o,b≠q->h.get? b=some o->h'.get? b=some o)(hl:∃ob,h'.get? q=some ob)
  (c:dr W g h' (.t i) o (q,q)) (hi:∀k l,o≠.inst k l) (hv:∀c r,o=.list c r->kB c=true) (hd:∀l,o=.dict l->∃l',p8 l=some l'):Inv W g (σ.Bo i o) h'/\gf g σ h g (σ.Bo i o) h':=by
 refine I.upd hq (fun z=>z) k hl rfl (fh ..) rfl (fun j o' e=>.inl e) (fun j o' e e' t=>by cases t) (fun j o' e=>?_);have e:aq (setAt σ.temps i o) j=some o':=e;rw[bX]at e;by_cases lq:i=j
 ·subst lq;rw[if_pos rfl]at e;cases z:aq σ.temps i with
  |none=>rw[z]at e;cases e
  |some w=>rw[z]at e;cases e;exact .inr ⟨rfl,q,hp,c,hi,hv,hd⟩
 ·rw[if_neg lq]at e;exact .inl ⟨e,fun z=>lq (by rcases z with _|_;rfl)⟩
end
section
variable{W:Wd}{g g':Gh}{σ aF:St}{h h':Heap}
theorem jL(r:List D):items [] r=r.reverse.map ag.d:=by
 unfold items;rw[List.nil_append,List.map_reverse]
theorem gR:∀{l:List D} {ws:List Value},cc W g (l.map ag.d) ws->∃as,ReadsAll g.B ws l as:=by
 intro l0
 induction l0 with
 |nil=>
  intro l1;rcases l1 with _|⟨y0,nR⟩
  ·intro _;exact⟨_,.nil⟩
  ·intro z;exact z.elim
 |cons x0 Jq ih=>
  intro l1;rcases l1 with _|⟨y0,nR⟩
  ·intro z;exact z.elim
  ·rintro ⟨⟨as,a⟩,b⟩
   exact let⟨bs,q⟩:=ih b;⟨as++bs,.cons a q⟩
theorem vj{l:List D}{ws:List Value}{as:List Addr}(r:ReadsAll g.B ws l as):cc W g (l.map ag.d) ws:=
 ll (motive:=fun ws l=>cc W g (l.map ag.d) ws) trivial (fun _ _ _ _ _ _ a _ ih=>⟨⟨_,a⟩,ih⟩) r
theorem T8{a:Addr}{ob:Obj}{O:Addr->Tag}(hf:ob.isFreed=false)(hn:g.B.get? a=none):RM W g {g with B:=jF g.B a ob,O:=O}:=fun m v r=>by
 have bm:∀b o,g.B.get? b=some o->(jF g.B a ob).get? b=some o:=fi hf hn
 induction m using ag.casesOn with
 |d x=>exact dQ.mono bm r
 |ob k' l=>obtain⟨a',dx,es,n,e,h1,h2,h3⟩:=r;exact⟨a',dx,es,n,e,bm _ _ h1,bm _ _ h2,h3.mono bm⟩
 |_=>exact r
theorem Inv.fzt(I:Inv W g σ h){i:Nat}{r:List D}{a:Addr}(hs:aq σ.temps i=some (.list [] r))(ha:aq g.lt i=some a):
  ∃g',RM W g g'/\dQ g'.B (.list r.reverse) (.ref a)/\g'.lb=g.lb/\g'.lt=g.lt/\Inv W g' (σ.Bo i (.yu (.list r.reverse))) h/\gf g σ h g' (σ.Bo i (.yu (.list r.reverse))) h:=by
 refine ja (I.ct i _ hs) fun a' e' c _=>?_;obtain rfl:=Option.some.inj (ha.symm.trans e');obtain⟨ho,ws,n,hg,hr⟩:=c;have ho:g.O a=.t i:=ho;have hg:h.get? a=some (eA ws n):=hg;have hf:(eA ws n).isFreed=false:=rfl;have WU:g.B.get? a=none:=by
  cases q:g.B.get? a with
  |none=>rfl
  |some o=>have:=I.lO _ _ q;rw[ho]at this;rcases this with _|_
 rw[jL]at hr;obtain⟨as,M3⟩:=gR hr;have bm:∀b o,g.B.get? b=some o->(jF g.B a (eA ws n)).get? b=some o:=fi hf WU;have rm:RM W g {g with B:=jF g.B a (eA ws n),O:=cM g.O a .no}:=T8 hf WU;have hD:dQ (jF g.B a (eA ws n)) (.list r.reverse) (.ref a):=⟨_,.list (fU hf) rfl rfl (ReadsAll.keeps bm (by simpa using M3))⟩;have tg:∀(tag:Tag) (b:Addr),tag≠.t i->g.O b=tag->cM g.O a .no b=tag:=fun tag b ht q=>by
  rw[cF fun z=>?_];exact q;subst z;rw[ho]at q;exact ht q.symm
 refine⟨_,rm,hD,rfl,rfl,⟨fun b o e=>bm _ _ (I.fT b o e),fun b o e=>?_,fun b o e=>?_,fun b e=>?_,I.qV,I.qm.trans (fh ..).symm,fun j o e=>?_,I.cn,fun j o e=>?_,I.sb,fun j c r' e=>?_,fun j l e=>?_⟩,
  ⟨bm,fun b o e f=>⟨e,?_,?_⟩,fun b o e f=>⟨⟨o,e⟩,?_⟩,fun _ _ e _=>e,fun _ _ e=>e,Nat.le_refl _⟩⟩
 ·have e:(jF g.B a (eA ws n)).get? b=some o:=e;rw[gx _ _ _ hf]at e;by_cases hb:b=a
  ·subst hb;rw[if_pos rfl]at e;rcases e with _|_;exact hg
  ·rw[if_neg hb]at e;exact I.gP _ _ e
 ·have e:(jF g.B a (eA ws n)).get? b=some o:=e;rw[gx _ _ _ hf]at e;show cM _ _ _ _=_;by_cases hb:b=a
  ·subst hb;exact cZ ..
  ·rw[if_neg hb]at e;rw[cF hb];exact I.lO _ _ e
 ·show cM _ _ _ _=_;by_cases hb:b=a
  ·subst hb;exact cZ ..
  ·rw[cF hb];exact I.live _ e
 ·refine bR (I.cb j o e) fun p e1 c=>?_;exact⟨p,e1,c.rm rm (tg _ _ (fun z=>by rcases z with _|_)) (tg _ _ (fun z=>by rcases z with _|_)) (fun _ _ e=>e) (fun _ _ e=>e)⟩
 ·have e:aq (setAt σ.temps i _) j=some o:=e;rw[bX]at e;by_cases lq:i=j
  ·subst lq;rw[if_pos rfl,hs]at e;rcases e with _|_
   exact⟨a,ha,hD,fun k l z=>nomatch z⟩
  ·rw[if_neg lq]at e;refine ja (I.ct j o e) fun b e1 c z=>?_;exact⟨b,e1,c.rm rm (tg _ _ (fun z=>lq (by rcases z with _|_;rfl))) (tg _ _ (fun z=>lq (by rcases z with _|_;rfl))) (fun _ _ e=>e) (fun _ _ e=>e),z⟩
 ·have e:aq (setAt σ.temps i _) j=_:=e;rw[bX]at e;by_cases lq:i=j
  ·subst lq;rw[if_pos rfl,hs]at e;rcases e with _|_
  ·rw[if_neg lq]at e;exact I.DZ j c r' e
 ·have e:aq (setAt σ.temps i _) j=_:=e;rw[bX]at e;by_cases lq:i=j
  ·subst lq;rw[if_pos rfl,hs]at e;rcases e with _|_
  ·rw[if_neg lq]at e;exact I.D1 j l e
 ·show cM _ _ _ _=_;rw[cF fun z=>?_];subst z;rw[ho]at f;exact f.elim
 ·show(jF g.B a (eA ws n)).get? b=_;rw[gx _ _ _ hf,if_neg fun z=>?_];subst z;rw[ho]at f;exact f.elim
 ·by_cases hb:b=a
  ·subst hb;exact .inr (cZ ..)
  ·exact .inl (cF hb)
noncomputable def T9(W:Wd)(g g':Gh)(i:Nat):Prop:=∀m v,lh i m=true->bG W g m v->bG W g' m v
theorem cc.O6{i:Nat}(r:T9 W g g' i):∀{l:List ag} {vs:List Value},(∀m∈l,lh i m=true)->cc W g l vs->cc W g' l vs:=by
 intro l0
 induction l0 with
 |nil=>
  intro l1;rcases l1 with _|⟨y0,nR⟩
  ·intro _ _;exact trivial
  ·intro _ z;exact z.elim
 |cons x0 Jq ih=>
  intro l1;rcases l1 with _|⟨y0,nR⟩
  ·intro _ z;exact z.elim
  ·rintro z ⟨a,b⟩
   exact⟨r _ _ (z _ (.head _)) a,ih (fun m hm=>z m (.tail _ hm)) b⟩
theorem gh.O6{i:Nat}(r:T9 W g g' i):∀{l:List (Str×ag)} {vs:List (Str×Value)},j1 i l=true->gh W g l vs->gh W g' l vs:=by
 intro l0
 induction l0 with
 |nil=>
  intro l1;rcases l1 with _|⟨y0,nR⟩
  ·intro _ _;exact trivial
  ·intro _ z;exact z.elim
 |cons p l ih=>
  intro l1;rcases l1 with _|⟨y0,nR⟩
  ·intro _ z;exact z.elim
  ·rintro z ⟨e,a,b⟩
   have z:(lh i p.2&&j1 i l)=true:=z;rw[Bool.and_eq_true]at z;exact⟨e,r _ _ z.1 a,ih z.2 b⟩
theorem nX.O6{i:Nat}(r:T9 W g g' i):∀{l:List (Str×ag)} {vs:List DictEntry},j1 i l=true->nX W g l vs->nX W g' l vs:=by
 intro l0
 induction l0 with
 |nil=>
  intro l1;rcases l1 with _|⟨y0,nR⟩
  ·intro _ _;exact trivial
  ·intro _ z;exact z.elim
 |cons p l ih=>
  intro l1;rcases l1 with _|⟨y0,nR⟩
  ·intro _ z;exact z.elim
  ·rintro z ⟨e,a,b⟩
   have z:(lh i p.2&&j1 i l)=true:=z;rw[Bool.and_eq_true]at z;exact⟨e,r _ _ z.1 a,ih z.2 b⟩
theorem tK{i:Nat}:∀{l:List ag},kR i l=true->∀m∈l,lh i m=true
 |v::l,h,m,hm=>by
  have h:(lh i v&&kR i l)=true:=h;rw[Bool.and_eq_true]at h;rcases List.mem_cons.mp hm with rfl|hm
  ·exact h.1
  ·exact tK h.2 m hm
theorem BA{i:Nat}{c:List ag}{r:List D}(h:kR i c=true):∀m∈items c r,lh i m=true:=by
 intro m hm;unfold items at hm;rw[List.mem_reverse,List.mem_append]at hm;rcases hm with hm|hm
 ·exact tK h m hm
 ·obtain⟨d,_,rfl⟩:=List.mem_map.mp hm;rfl
theorem dr.O6{tag ng:Tag}{o:aL}{p:Addr×Addr}{i:Nat}(c:dr W g h tag o p)(r:T9 W g g' i)(no:u6 i o=true)(t1:g.O p.1=tag->g'.O p.1=ng)(t2:g.O p.2=tag->g'.O p.2=ng)
  (k1:g.O p.1=tag->∀o,h.get? p.1=some o->h'.get? p.1=some o) (k2:g.O p.2=tag->∀o,h.get? p.2=some o->h'.get? p.2=some o):dr W g' h' ng o p:=by
 induction o using aL.casesOn with
 |list c' r'=>
  refine bc fun bf=>?_;obtain⟨o1,ws,n,hg,hr⟩:=c;refine bf ?_;exact⟨t1 o1,ws,n,k1 o1 _ hg,hr.O6 r (BA no)⟩
 |dict l=>
  refine bc fun bf=>?_;obtain⟨o1,gM,hd,hr⟩:=c;refine bf ?_;exact⟨t1 o1,gM,DictOf.at hd (k1 o1),hr.O6 r no⟩
 |inst k l=>
  refine bc fun bf=>?_;obtain⟨o1,o2,ne,hg,es,n,hd,hr⟩:=c;refine bf ?_;exact⟨t1 o1,t2 o2,ne,k1 o1 _ hg,es,n,k2 o2 _ hd,hr.O6 r no⟩
 |yu x=>exact r (.d x) _ rfl c
theorem D2{i:Nat}(hv:Bg i=true){m:ag}(h:kz m=false):lh i m=true:=by
 induction m using ag.casesOn with
 |b j=>
  show(!Nat.beq i j)=true;cases q:Nat.beq i j with
  |false=>rfl
  |true=>
   have:i=j:=Nat.eq_of_beq_eq_true q;subst this;have h:Bg i=false:=h;rw[hv]at h;cases h
 |_=>rfl
theorem zj{i:Nat}(hv:Bg i=true):∀{l:List ag},kB l=true->kR i l=true:=by
 intro l0
 induction l0 with
 |nil=>
  intro _;exact rfl
 |cons m l ih=>
  intro h;have h:(!kz m&&kB l)=true:=h;rw[Bool.and_eq_true]at h;show(lh i m&&kR i l)=true;rw[D2 hv (by simpa using h.1),ih h.2];rfl
theorem BB{i:Nat}:∀{l:List (Str×ag)} {l':List (Str×D)},p8 l=some l'->j1 i l=true:=by
 intro l0
 induction l0 with
 |nil=>intro _ _;rfl
 |cons p l ih=>
  intro l' h;obtain⟨k,m⟩:=p;refine JG (motive:=fun m=>j1 i ((k,m)::l)=true) h fun x h=>DW h fun r e _=>?_;show(true&&j1 i l)=true;rw[ih e];rfl
theorem sE{i:Nat}:∀{l:List (Option aL)} {j:Nat} {o:aL},lZ i l=true->aq l j=some (some o)->u6 i o=true
 |none::l,0,_,_,e=>by cases e
 |none::l,j+1,o,h,e=>sE (l:=l) h e
 |some o'::l,0,_,h,e=>by
  have h:(u6 i o'&&lZ i l)=true:=h;rw[Bool.and_eq_true]at h;rcases e with _|_;exact h.1
 |some o'::l,j+1,o,h,e=>by
  have h:(u6 i o'&&lZ i l)=true:=h;rw[Bool.and_eq_true]at h;exact sE (l:=l) h.2 e
theorem M4:∀{l:List (Str×ag)} {l':List (Str×D)} {es:List DictEntry},p8 l=some l'->nX W g l es->Bv g.B l' es:=by
 intro l0
 induction l0 with
 |nil=>intro l' es h f;cases (show some []=some l' from h);rcases es with _|⟨e,es⟩<;>exact f
 |cons p l ih=>
  intro l' es h f;rcases es with _|⟨e,es⟩
  ·exact f.elim
  obtain⟨k,m⟩:=p;revert f;refine JG (motive:=fun m=>nX W g ((k,m)::l) (e::es)->Bv g.B l' (e::es)) h fun x h=>DW h fun r q z f=>?_;subst z;exact⟨f.1,f.2.1,ih q f.2.2⟩
theorem Inv.fzb(I:Inv W g σ h){i:Nat}{o:aL}{p:Addr×Addr}{qa qb:Addr}(hv:Bg i=true)(hs:aq σ.base i=some (some o))(hp:aq g.lb i=some (some p))(MG:lZ i σ.base=true)
  {B':Heap} (hB:∀b ob,g.B.get? b=some ob->B'.get? b=some ob) (hB1:∀b,b≠qa->b≠qb->B'.get? b=g.B.get? b) (hB2:∀b ob,B'.get? b=some ob->h.get? b=some ob)
  (h1:g.O qa=.b i) (h2:g.O qb=.b i):
  Inv W {g with B:=B',O:=cM (cM g.O qa .no) qb .no,lb:=setAt g.lb i none} {σ.lj i none with gen:=σ.gen+1} h/\
  gf g σ h {g with B:=B',O:=cM (cM g.O qa .no) qb .no,lb:=setAt g.lb i none} {σ.lj i none with gen:=σ.gen+1} h:=by
 have same:∀b,b≠qa->b≠qb->cM (cM g.O qa .no) qb .no b=g.O b:=fun b a c=>by rw[cF c,cF a]
 have Yx:cM (cM g.O qa .no) qb .no qa=.no:=by
  by_cases q:qa=qb
  ·rw[q];exact cZ ..
  ·rw[cF q];exact cZ ..
 have tg:∀(tag:Tag) (b:Addr),tag≠.b i->g.O b=tag->cM (cM g.O qa .no) qb .no b=tag:=fun tag b ht q=>by
  rw[same b (fun z=>?_) (fun z=>?_)];exact q
  ·subst z;rw[h1]at q;exact ht q.symm
  ·subst z;rw[h2]at q;exact ht q.symm
 have rm:T9 W g {g with B:=B',O:=cM (cM g.O qa .no) qb .no,lb:=setAt g.lb i none} i:=fun m v no r=>by
  induction m using ag.casesOn with
  |d x=>exact dQ.mono hB r
  |ob k' l=>obtain⟨a',dx,es,n,e,q1,q2,q3⟩:=r;exact⟨a',dx,es,n,e,hB _ _ q1,hB _ _ q2,q3.mono hB⟩
  |b j=>
   refine bR (r) fun q e ev=>?_;refine⟨q,?_,ev⟩;show aq (setAt g.lb i none) j=_;rw[bX,if_neg fun z=>?_];exact e;subst z;have no:(!Nat.beq i i)=true:=no;rw[show Nat.beq i i=true from Nat.beq_refl i]at no;cases no
  |_=>exact r
 refine⟨⟨fun b ob e=>hB _ _ (I.fT b ob e),hB2,fun b ob e=>?_,fun b e=>?_,?_,I.qm,fun j ob e=>?_,fun j e=>?_,fun j ob e=>?_,fun j ob e=>?_,I.DZ,I.D1⟩,
  ⟨hB,fun b ob e f=>⟨e,?_,?_⟩,fun b ob e f=>⟨⟨ob,e⟩,?_⟩,fun j q e v=>?_,fun _ _ e=>e,Nat.le_succ _⟩⟩
 ·show cM _ _ _ _=_;by_cases a:b=qa
  ·rw[a];exact Yx
  ·by_cases c:b=qb
   ·rw[c];exact cZ ..
   ·rw[same b a c];rw[hB1 b a c]at e;exact I.lO _ _ e
 ·show cM _ _ _ _=_;by_cases a:b=qa
  ·rw[a];exact Yx
  ·by_cases c:b=qb
   ·rw[c];exact cZ ..
   ·rw[same b a c];exact I.live _ e
 ·show(setAt g.lb i none).length=(setAt σ.base i none).length;rw[fh,fh,I.qV]
 ·have e:aq (setAt σ.base i none) j=some (some ob):=e;rw[bX]at e;by_cases lq:i=j
  ·subst lq;rw[if_pos rfl,hs]at e;rcases e with _|_
  ·rw[if_neg lq]at e;refine bR (I.cb j ob e) fun q e1 c=>?_;refine⟨q,?_,c.O6 rm (sE MG e) (tg _ _ fun z=>lq (by rcases z with _|_;rfl)) (tg _ _ fun z=>lq (by rcases z with _|_;rfl)) (fun _ _ e=>e) (fun _ _ e=>e)⟩;show aq (setAt g.lb i none) j=_;rw[bX,if_neg lq];exact e1
 ·have e:aq (setAt σ.base i none) j=some none:=e;rw[bX]at e;show aq (setAt g.lb i none) j=_;rw[bX];by_cases lq:i=j
  ·subst lq;rw[if_pos rfl,hp];rfl
  ·rw[if_neg lq]at e⊢;exact I.cn j e
 ·refine ja (I.ct j ob e) fun b e1 c z=>?_;refine⟨b,e1,c.O6 rm ?_ (tg _ _ fun z=>nomatch z) (tg _ _ fun z=>nomatch z) (fun _ _ e=>e) (fun _ _ e=>e),z⟩
  induction ob using aL.casesOn with
  |list c' r'=>exact zj hv (I.DZ j _ _ e)
  |dict l=>obtain⟨l',q⟩:=I.D1 j _ e;exact BB q
  |inst k l=>exact absurd rfl (z k l)
  |yu x=>rfl
 ·have e:aq (setAt σ.base i none) j=some (some ob):=e;rw[bX]at e;by_cases lq:i=j
  ·subst lq;rw[if_pos rfl,hs]at e;rcases e with _|_
  ·rw[if_neg lq]at e;exact I.sb j ob e
 ·show cM _ _ _ _=_;rw[same b (fun z=>?_) (fun z=>?_)]
  ·subst z;rw[h1]at f;exact f.elim
  ·subst z;rw[h2]at f;exact f.elim
 ·exact hB1 b (fun z=>by subst z;rw[h1]at f;exact f.elim) (fun z=>by subst z;rw[h2]at f;exact f.elim)
 ·by_cases a:b=qa
  ·right;rw[a];exact Yx
  ·by_cases c:b=qb
   ·right;rw[c];exact cZ ..
   ·exact .inl (same b a c)
 ·show aq (setAt g.lb i none) j=_;rw[bX,if_neg fun z=>?_];exact e;subst z;have v:σ.gen+1=σ.gen:=v hv;exact absurd v (Nat.succ_ne_self _)
theorem Inv.SN(I:Inv W g σ h){q:Addr}(hq:g.O q=.fr)(k:∀b o,b≠q->h.get? b=some o->h'.get? b=some o)(hl:∃ob,h'.get? q=some ob):Inv W g σ h':=by
 have lift:∀{ng:Tag} {o:aL} {p:Addr×Addr},ng≠.fr->dr W g h ng o p->dr W g h' ng o p:=fun ne c=>
  c.rm (fun _ _ r=>r) id id (fun z o=>k _ o fun e=>ne (by rw[<-z,e,hq])) (fun z o=>k _ o fun e=>ne (by rw[<-z,e,hq]))
 refine⟨I.fT,fun b o e=>k _ _ (fun z=>?_) (I.gP b o e),I.lO,fun b e=>?_,I.qV,I.qm,fun i o e=>?_,I.cn,fun i o e=>?_,I.sb,I.DZ,I.D1⟩
 ·have:=I.lO _ _ e;rw[z,hq]at this;rcases this with _|_
 ·apply I.live;by_cases Bx:b=q
  ·subst Bx;obtain⟨ob,z⟩:=hl;rw[z]at e;rcases e with _|_
  ·cases z:h.get? b with
   |none=>rfl
   |some o=>rw[k _ _ Bx z]at e;rcases e with _|_
 ·refine bR (I.cb i o e) fun p e1 c=>?_;exact⟨p,e1,lift (fun z=>nomatch z) c⟩
 ·refine ja (I.ct i o e) fun a e1 c z=>?_;exact⟨a,e1,lift (fun z=>nomatch z) c,z⟩
structure iD(g:Gh)(σ:St)(h:Heap)(g':Gh)(aF:St)(h':Heap):Prop where
 bm:∀a o,g.B.get? a=some o->g'.B.get? a=some o
 fo:∀a o,h.get? a=some o->g.O a=.no->h'.get? a=some o/\g'.O a=.no/\g'.B.get? a=g.B.get? a
 fr:∀a o,h.get? a=some o->g.O a=.fr->(∃o',h'.get? a=some o')/\g'.O a=.fr
 co:∀a o,h.get? a=some o->¬JK (g.O a)->(∃o',h'.get? a=some o')/\(g'.O a=g.O a\/g'.O a=.no)
 lb:∀i p,aq g.lb i=some (some p)->(Bg i=true->aF.gen=σ.gen)->aq g'.lb i=some (some p)
 lt:∀i a,aq g.lt i=some a->aq g'.lt i=some a
 gm:σ.gen<=aF.gen
theorem gf.s(P:gf g σ h g' aF h'):iD g σ h g' aF h' where
 bm:=P.bm
 fo a o e f:=let⟨x,y,z⟩:=P.fo a o e (f▸trivial);⟨x,y.trans f,z⟩
 fr a o e f:=let⟨x,y,z⟩:=P.fo a o e (f▸trivial);⟨⟨o,x⟩,y.trans f⟩
 co:=P.co
 lb:=P.lb
 lt:=P.lt
 gm:=P.gm
theorem iD.trans{cD ve:Gh}{ab au:St}{jE sD:Heap}(a:iD g σ h cD ab jE)(b:iD cD ab jE ve au sD):iD g σ h ve au sD where
 bm x o e:=b.bm x o (a.bm x o e)
 fo x o e f:=by
  refine n7 (a.fo x o e f) fun e1 o1 b1=>?_;refine n7 (b.fo x o e1 o1) fun e2 o2 b2=>?_;exact⟨e2,o2,b2.trans b1⟩
 fr x o e f:=by
  obtain⟨⟨o',e1⟩,o1⟩:=a.fr x o e f;exact b.fr x o' e1 o1
 co x o e f:=by
  obtain⟨⟨o',e1⟩,o1⟩:=a.co x o e f;rcases o1 with o1|o1
  ·obtain⟨q,o2⟩:=b.co x o' e1 (o1▸f);exact⟨q,o2.imp (fun z=>z.trans o1) id⟩
  ·refine n7 (b.fo x o' e1 o1) fun e2 o2 _=>?_;exact⟨⟨_,e2⟩,.inr o2⟩
 lb i p e v:=by
  have h1:Bg i=true->ab.gen=σ.gen:=fun q=>Nat.le_antisymm (Nat.le_trans b.gm (Nat.le_of_eq (v q))) a.gm;exact b.lb i p (a.lb i p e h1) fun q=>(v q).trans (h1 q).symm
 lt i x e:=b.lt i x (a.lt i x e)
 gm:=Nat.le_trans a.gm b.gm
theorem iD.refl(g:Gh)(σ:St)(h:Heap):iD g σ h g σ h:=(gf.refl g σ h).s
theorem iD.SN{q:Addr}(hq:g.O q=.fr)(k:∀b o,b≠q->h.get? b=some o->h'.get? b=some o)(hl:∃ob,h'.get? q=some ob):iD g σ h g σ h':=by
 have any:∀a o,h.get? a=some o->∃o',h'.get? a=some o':=fun a o e=>by
  by_cases z:a=q
  ·subst z;exact hl
  ·exact⟨o,k a o z e⟩
 exact⟨fun _ _ e=>e,fun a o e f=>⟨k a o (fun z=>by subst z;rw[hq]at f;rcases f with _|_) e,f,rfl⟩,fun a o e f=>⟨any a o e,f⟩,fun a o e f=>⟨any a o e,.inl rfl⟩,fun _ _ e _=>e,fun _ _ e=>e,Nat.le_refl _⟩
theorem iD.live{a:Addr}{o:Obj}(P:iD g σ h g' aF h')(e:h.get? a=some o):∃o',h'.get? a=some o':=by
 cases q:g.O a with
 |no=>exact⟨_,(P.fo a o e q).1⟩
 |fr=>exact(P.fr a o e q).1
 |b i=>exact(P.co a o e (by rw[q];exact id)).1
 |t i=>exact(P.co a o e (by rw[q];exact id)).1
end
theorem xM{ns:List Str}:∀{vs:List Value},ns.Nodup->ns.length=vs.length->(ns.filterMap fun n=>((ns.zip vs).lookup n).map (n,·))=ns.zip vs:=by
 have key:∀(ns:List Str) (vs:List Value) (pre:List (Str×Value)),(∀n∈ns,pre.lookup n=none)->ns.Nodup->ns.length=vs.length->
   (ns.filterMap fun n=>((pre++ns.zip vs).lookup n).map (n,·))=ns.zip vs:=by
  intro ns
  induction ns with
  |nil=>intro vs pre _ _ _;rfl
  |cons n ns ih=>
   intro vs pre hp hn hl
   induction vs using List.casesOn with
   |nil=>cases hl
   |cons v vs=>
    have pT:=List.nodup_cons.mp hn;have e1:(pre++(n::ns).zip (v::vs)).lookup n=some v:=by
     refine az (List.lookup_append) ?_;refine az (hp n (.head _)) ?_;simp[List.zip_cons_cons,List.lookup_cons]
    refine az (List.filterMap_cons) ?_;refine az (e1) ?_;show(n,v)::_=(n,v)::_
    congr 1
    have:=ih vs (pre++[(n,v)]) (fun m hm=>?_) pT.2 (Nat.succ.inj hl)
    ·refine Eq.trans ?_ this;simp
    ·refine az (List.lookup_append) ?_;refine az (hp m (.tail _ hm)) ?_;have:(m==n)=false:=by
      rw[beq_eq_false_iff_ne];intro e;subst e;exact pT.1 hm
     simp[List.lookup_cons,this]
 intro vs hn hl;have:=key ns vs [] (fun _ _=>rfl) hn hl
 simpa using this
theorem vl{n:Str}:∀{ns:List Str} {vs:List Value},n∈ns->ns.length=vs.length->((ns.zip vs).lookup n).isSome=true:=by
 intro l0
 induction l0 with
 |nil=>
  intro _ hm _;exact nomatch hm
 |cons m ns ih=>
  intro l1;rcases l1 with _|⟨v,vs⟩
  ·intro _ hl;rcases hl with _|_
  ·intro hm hl;refine az (List.zip_cons_cons) ?_;refine az (List.lookup_cons) ?_;cases q:n==m with
   |true=>rfl
   |false=>
    rcases List.mem_cons.mp hm with e|hm
    ·subst e;simp at q
    ·exact ih hm (Nat.succ.inj hl)
theorem vm{fd:FuncData}{as:List Arg}{vals:List Value}(hp:fd.params=⟨[],as,none,[],[],none,[]⟩)(hd:fd.defaults=.none)(hn:(as.map (·.arg)).Nodup)(hl:(as.map (·.arg)).length=vals.length):
  bindArgs fd ⟨vals,[]⟩=pure ((as.map (·.arg)).zip vals):=by
 have hfm:=xM hn hl;have aaw:((as.map (·.arg)).filter fun n=>(((as.map (·.arg)).zip vals).lookup n).isNone)=[]:=by
  rw[List.filter_eq_nil_iff];intro n hm;have:=vl hm hl;simp[Option.isNone_iff_eq_none,Option.isSome_iff_ne_none]at this⊢;exact this
 unfold bindArgs;refine az (hp) ?_;refine az (hd) ?_;generalize SO:as.map (·.arg)=ns at*;have hg:¬(vals.length>ns.length):=by omega
 simp[SO,seqItems?,notAStandIn,hl,hfm];intro x hx MG;exfalso;obtain⟨v,hv⟩:=Option.isSome_iff_exists.mp (vl (List.mem_of_mem_take hx) hl);exact MG v (mem_of_lookup hv)
structure FnAt(W:Wd)(f:Nat)(ps:List Str)(body:List Stmt)(sc:Scope):Prop where
 ob:∃o fd as,W.h₀.get? (W.fa f)=some o/\o.data=.func fd/\W.h₀.CodeRec fd.code fd.qualname/\fd.body=.stmts body/\fd.scope=sc/\fd.closure=[]/\fd.globals=mainGlobals/\fd.builtins=builtinsNs/\
  fd.defaults=.none/\fd.params=⟨[],as,none,[],[],none,[]⟩/\as.map (·.arg)=ps
 nd:ps.Nodup
 kinds:(ps.all fun y=>sc.names.lookup y==some .local||sc.names.lookup y==some .cell)=true
 kind:sc.kind=.function
 co:sc.isCoroutine=false
 gen:sc.isGenerator=false
 Qr:(sc.names.all fun p=>p.2 != .free)=true
section
variable{W:Wd}{g g':Gh}{σ aF:St}{h h':Heap}
theorem tL{kf:Str->Option NameKind}{x:Str}:∀{binds:List (Str×Value)} {m:Str->Option Value},(∀p∈binds,p.1≠x)->bindL kf binds m x=m x
 |[],_,_=>rfl
 |(n,v)::r,m,h=>by
  unfold bindL;refine az (tL (binds:=r) fun p hp=>h p (.tail _ hp)) ?_;split
  ·exact if_neg fun e=>h (n,v) (.head _) e.symm
  ·rfl
theorem tM{kf:Str->Option NameKind}{x:Str}:∀{binds:List (Str×Value)} {m:Str->Option Value},(∀p∈binds,p.1≠x)->bindC kf binds m x=m x
 |[],_,_=>rfl
 |(n,v)::r,m,h=>by
  unfold bindC;refine az (tM (binds:=r) fun p hp=>h p (.tail _ hp)) ?_;split
  ·rfl
  ·exact if_neg fun e=>h (n,v) (.head _) e.symm
theorem BC{kf:Str->Option NameKind}{x:Str}{mv:ag}:∀{ps:List Str} {vs:List ag} {vals:List Value} {m cm:Str->Option Value},ps.Nodup->ps.length=vs.length->cc W g vs vals->dF x (ps.zip vs)=some mv->
  ∃v,bG W g mv v/\(kf x=some .local->bindL kf (ps.zip vals) m x=some v)/\(¬kf x=some .local->bindC kf (ps.zip vals) cm x=some v)
 |p::ps,v::vs,w::vals,m,cm,hn,hl,⟨r,rs⟩,e=>by
  have pT:=List.nodup_cons.mp hn;have e:(match fb p x with|true=>some v|false=>dF x (ps.zip vs))=some mv:=e;cases q:fb p x with
  |true=>
   rw[q]at e;rcases e with _|_
   have q:=bj.mp q;subst q;have no:∀y∈ps.zip vals,y.1≠p:=by
    intro y hy e;have y1:=y.1;have y2:=y.2;exact pT.1 (e▸(List.of_mem_zip hy).1)
   refine⟨w,r,fun k=>?_,fun k=>?_⟩
   ·show bindL kf (ps.zip vals) _ p=some w;rw[tL no,if_pos k,if_pos rfl]
   ·show bindC kf (ps.zip vals) _ p=some w;rw[tM no,if_neg k,if_pos rfl]
  |false=>
   rw[q]at e;refine ja (BC (kf:=kf) (m:=if kf p=some .local then fun y=>if y=p then some w else m y else m) (cm:=if kf p=some .local then cm else fun y=>if y=p then some w else cm y) pT.2 (Nat.succ.inj hl) rs e) fun v' r' a b=>?_;exact⟨v',r',a,b⟩
 |[],_,_,_,_,_,_,_,e=>by cases e
 |_::_,[],_,_,_,_,hl,_,_=>by cases hl
 |_::_,_::_,[],_,_,_,_,z,_=>z.elim
noncomputable def jM:Tag->Tag
 |.b i=>.b i
 |_=>.no
noncomputable def xN(g:Gh)(fr:Addr->Bool):Gh:={B:=g.B,O:=fun a=>match fr a with|true=>.fr|false=>jM (g.O a),lb:=g.lb,lt:=[]}
noncomputable def Qs(σ:St):St:={σ with temps:=[]}
theorem bG.WV{g g':Gh}(bm:∀a o,g.B.get? a=some o->g'.B.get? a=some o)(lb:∀i p,aq g.lb i=some (some p)->aq g'.lb i=some (some p)){m:ag}{v:Value}(h:ke m=true)(r:bG W g m v):bG W g' m v:=by
 induction m using ag.casesOn with
 |d x=>exact dQ.mono bm r
 |ob k' l=>obtain⟨a',dx,es,n,e,h1,h2,h3⟩:=r;exact⟨a',dx,es,n,e,bm _ _ h1,bm _ _ h2,h3.mono bm⟩
 |b i=>obtain⟨p,e,ev⟩:=r;exact⟨p,lb _ _ e,ev⟩
 |t i=>cases h
 |fn f=>exact r
 |g=>exact r
noncomputable def SP(W:Wd)(g g':Gh):Prop:=∀m v,ke m=true->bG W g m v->bG W g' m v
theorem sF:∀{l:List ag},jf l=true->∀m∈l,ke m=true
 |v::l,h,m,hm=>by
  have h:(ke v&&jf l)=true:=h;rw[Bool.and_eq_true]at h;rcases List.mem_cons.mp hm with rfl|hm
  ·exact h.1
  ·exact sF h.2 m hm
theorem Hn{c:List ag}{r:List D}(h:jf c=true):∀m∈items c r,ke m=true:=by
 intro m hm;unfold items at hm;rw[List.mem_reverse,List.mem_append]at hm;rcases hm with hm|hm
 ·exact sF h m hm
 ·obtain⟨d,_,rfl⟩:=List.mem_map.mp hm;rfl
theorem cc.MH(r:SP W g g'):∀{l:List ag} {vs:List Value},(∀m∈l,ke m=true)->cc W g l vs->cc W g' l vs:=by
 intro l0
 induction l0 with
 |nil=>
  intro l1;rcases l1 with _|⟨y0,nR⟩
  ·intro _ _;exact trivial
  ·intro _ z;exact z.elim
 |cons x0 Jq ih=>
  intro l1;rcases l1 with _|⟨y0,nR⟩
  ·intro _ z;exact z.elim
  ·rintro z ⟨a,b⟩
   exact⟨r _ _ (z _ (.head _)) a,ih (fun m hm=>z m (.tail _ hm)) b⟩
theorem gh.MH(r:SP W g g'):∀{l:List (Str×ag)} {vs:List (Str×Value)},kJ l=true->gh W g l vs->gh W g' l vs:=by
 intro l0
 induction l0 with
 |nil=>
  intro l1;rcases l1 with _|⟨y0,nR⟩
  ·intro _ _;exact trivial
  ·intro _ z;exact z.elim
 |cons p l ih=>
  intro l1;rcases l1 with _|⟨y0,nR⟩
  ·intro _ z;exact z.elim
  ·rintro z ⟨e,a,b⟩
   have z:(ke p.2&&kJ l)=true:=z;rw[Bool.and_eq_true]at z;exact⟨e,r _ _ z.1 a,ih z.2 b⟩
theorem nX.MH(r:SP W g g'):∀{l:List (Str×ag)} {vs:List DictEntry},kJ l=true->nX W g l vs->nX W g' l vs:=by
 intro l0
 induction l0 with
 |nil=>
  intro l1;rcases l1 with _|⟨y0,nR⟩
  ·intro _ _;exact trivial
  ·intro _ z;exact z.elim
 |cons p l ih=>
  intro l1;rcases l1 with _|⟨y0,nR⟩
  ·intro _ z;exact z.elim
  ·rintro z ⟨e,a,b⟩
   have z:(ke p.2&&kJ l)=true:=z;rw[Bool.and_eq_true]at z;exact⟨e,r _ _ z.1 a,ih z.2 b⟩
theorem dr.MH{tag:Tag}{o:aL}{p:Addr×Addr}(c:dr W g h tag o p)(r:SP W g g')(no:DV o=true)(t:∀a,g.O a=tag->g'.O a=tag)
  (k:∀a,g.O a=tag->∀o,h.get? a=some o->h'.get? a=some o):dr W g' h' tag o p:=by
 induction o using aL.casesOn with
 |list c' r'=>
  refine bc fun bf=>?_;obtain⟨o1,ws,n,hg,hr⟩:=c;refine bf ?_;exact⟨t _ o1,ws,n,k _ o1 _ hg,hr.MH r (Hn no)⟩
 |dict l=>
  refine bc fun bf=>?_;obtain⟨o1,gM,hd,hr⟩:=c;refine bf ?_;exact⟨t _ o1,gM,DictOf.at hd (k _ o1),hr.MH r no⟩
 |inst k' l=>
  refine bc fun bf=>?_;obtain⟨o1,o2,ne,hg,es,n,hd,hr⟩:=c;refine bf ?_;exact⟨t _ o1,t _ o2,ne,k _ o1 _ hg,es,n,k _ o2 _ hd,hr.MH r no⟩
 |yu x=>rcases no with _|_
theorem Qt(I:Inv W g σ h)(k:∀b o,h.get? b=some o->h'.get? b=some o){fr:Addr->Bool}(hf:∀a,fr a=true->h.get? a=none/\∃o,h'.get? a=some o):Inv W (xN g fr) (Qs σ) h':=by
 have fF:∀a o,h.get? a=some o->fr a=false:=fun a o e=>by
  cases q:fr a with
  |false=>rfl
  |true=>rw[(hf a q).1]at e;cases e
 have rm:SP W g (xN g fr):=fun m v z r=>bG.WV (g:=g) (g':=xN g fr) (fun _ _ e=>e) (fun _ _ e=>e) z r;refine⟨I.fT,fun a o e=>k _ _ (I.gP a o e),fun a o e=>?_,fun a e=>?_,I.qV,rfl,fun i o e=>?_,I.cn,fun i o e=>(nomatch e),I.sb,fun i c r e=>(nomatch e),fun i l e=>(nomatch e)⟩
 ·show(match fr a with|true=>Tag.fr|false=>jM (g.O a))=.no;rw[fF a o (I.gP a o e),I.lO a o e];rfl
 ·show(match fr a with|true=>Tag.fr|false=>jM (g.O a))=.no;cases q:fr a with
  |true=>obtain⟨o,z⟩:=(hf a q).2;rw[z]at e;cases e
  |false=>
   have:h.get? a=none:=by
    cases z:h.get? a with
    |none=>rfl
    |some o=>rw[k _ _ z]at e;rcases e with _|_
   rw[I.live a this];rfl
 ·refine bR (I.cb i o e) fun p e1 c=>?_;refine⟨p,e1,c.MH rm (I.sb i o e) (fun a q=>?_) (fun a _=>k a)⟩;show(match fr a with|true=>Tag.fr|false=>jM (g.O a))=.b i;have:fr a=false:=by
   cases z:fr a with
   |false=>rfl
   |true=>have:=I.live a (hf a z).1;rw[q]at this;rcases this with _|_
  rw[this,q];rfl
noncomputable def nS:Tag->Bool
 |.t _=>true
 |.fr=>true
 |_=>false
noncomputable def sG(g g':Gh):Gh:={B:=g'.B,O:=fun a=>match nS (g.O a)with|true=>g.O a|false=>jM (g'.O a),lb:=g'.lb,lt:=g.lt}
noncomputable def Ua(σ aF:St):St:={aF with temps:=σ.temps}
theorem D3{c:List ag}(hc:kB c=true):∀m∈c,kz m=false:=by
 induction c with
 |nil=>intro m hm;cases hm
 |cons v l ih=>
  intro m hm;have hc:(!kz v&&kB l)=true:=hc;rw[Bool.and_eq_true]at hc;rcases List.mem_cons.mp hm with rfl|hm
  ·simpa using hc.1
  ·exact ih hc.2 m hm
theorem Qu{fr:Addr->Bool}{jE:Heap}(I:Inv W g σ h)(k:∀b o,h.get? b=some o->jE.get? b=some o)(hf:∀a,fr a=true->h.get? a=none/\∃o,jE.get? a=some o)
  (I':Inv W g' aF h') (P:iD (xN g fr) (Qs σ) jE g' aF h'):
  Inv W (sG g g') (Ua σ aF) h'/\gf g σ h (sG g g') (Ua σ aF) h':=by
 have fF:∀a o,h.get? a=some o->fr a=false:=fun a o e=>by
  cases q:fr a with
  |false=>rfl
  |true=>rw[(hf a q).1]at e;cases e
 have JL:∀a o,h.get? a=some o->(xN g fr).O a=jM (g.O a):=fun a o e=>by
  show(match fr a with|true=>Tag.fr|false=>jM (g.O a))=_;rw[fF a o e]
 have JM:∀a,g.O a≠.no->∃o,h.get? a=some o:=fun a z=>by
  cases q:h.get? a with
  |none=>exact absurd (I.live a q) z
  |some o=>exact⟨o,rfl⟩
 have un:∀a o,h.get? a=some o->jM (g.O a)=.no->h'.get? a=some o/\g'.O a=.no/\g'.B.get? a=g.B.get? a:=fun a o e z=>P.fo a o (k a o e) ((JL a o e).trans z);have Gb:∀t:Tag,nS t=true->jM t=.no:=fun t z=>by cases t<;>first|rfl|cases z
 have Yy:∀a,nS (g.O a)=true->(sG g g').O a=g.O a:=fun a z=>by
  show(match nS (g.O a)with|true=>g.O a|false=>jM (g'.O a))=_;rw[z]
 have JN:∀a,nS (g.O a)=false->(sG g g').O a=jM (g'.O a):=fun a z=>by
  show(match nS (g.O a)with|true=>g.O a|false=>jM (g'.O a))=_;rw[z]
 have Yz:∀a,nS (g.O a)=true->g'.O a=.no:=fun a z=>by
  obtain⟨o,e⟩:=JM a (fun q=>by rw[q]at z;cases z);exact(un a o e (Gb _ z)).2.1
 have MH:SP W g' (sG g g'):=fun m v z r=>bG.WV (g:=g') (g':=sG g g') (fun _ _ e=>e) (fun _ _ e=>e) z r;have lbn:∀i p,Bg i=false->aq g.lb i=some (some p)->aq g'.lb i=some (some p):=fun i p z e=>P.lb i p e (fun q=>by rw[z]at q;cases q);have rmv:∀m v,kz m=false->bG W g m v->bG W (sG g g') m v:=fun m v z r=>by
  induction m using ag.casesOn with
  |d x=>exact dQ.mono P.bm r
  |ob k' l=>obtain⟨a',dx,es,n,e,h1,h2,h3⟩:=r;exact⟨a',dx,es,n,e,P.bm _ _ h1,P.bm _ _ h2,h3.mono P.bm⟩
  |b i=>obtain⟨p,e,ev⟩:=r;exact⟨p,lbn i p z e,ev⟩
  |t i=>exact r
  |fn f=>exact r
  |g=>exact r
 refine⟨⟨I'.fT,I'.gP,fun a o e=>?_,fun a e=>?_,I'.qV,I.qm,fun i o e=>?_,I'.cn,fun i o e=>?_,I'.sb,I.DZ,I.D1⟩,
  ⟨P.bm,fun a o e f=>?_,fun a o e f=>⟨P.live (k a o e),?_⟩,P.lb,fun _ _ e=>e,P.gm⟩⟩
 ·cases z:nS (g.O a)with
  |false=>rw[JN a z,I'.lO a o e];rfl
  |true=>
   exfalso;obtain⟨o',q⟩:=JM a (fun q=>by rw[q]at z;cases z);have:=(un a o' q (Gb _ z)).2.2;have e:g'.B.get? a=some o:=e;rw[e]at this;have:=I.lO _ _ this.symm;rw[this]at z;cases z
 ·cases z:nS (g.O a)with
  |false=>rw[JN a z,I'.live a e];rfl
  |true=>
   exfalso;obtain⟨o',q⟩:=JM a (fun q=>by rw[q]at z;cases z);rw[(un a o' q (Gb _ z)).1]at e;cases e
 ·refine bR (I'.cb i o e) fun p e1 c=>?_;refine⟨p,e1,c.MH MH (I'.sb i o e) (fun a q=>?_) (fun a _ o e=>e)⟩;cases z:nS (g.O a)with
  |false=>rw[JN a z,q];rfl
  |true=>rw[Yz a z]at q;cases q
 ·refine ja (I.ct i o e) fun a e1 c z=>?_;refine⟨a,e1,?_,z⟩;have tt:g.O a=.t i->(sG g g').O a=.t i:=fun q=>by rw[Yy a (by rw[q];rfl),q]
  have kk:g.O a=.t i->∀o,h.get? a=some o->h'.get? a=some o:=fun q o e=>(un a o e (by rw[q];rfl)).1
  induction o using aL.casesOn with
  |list c' r'=>
   refine bc fun bf=>?_;obtain⟨o1,ws,n,hg,hr⟩:=c;refine bf ?_;have hv:=D3 (I.DZ i _ _ e);refine⟨tt o1,ws,n,kk o1 _ hg,?_⟩;have:∀(l:List ag) (ws:List Value),(∀m∈l,kz m=false)->cc W g l ws->cc W (sG g g') l ws:=by
    intro l
    induction l with
    |nil=>intro ws _ r;cases ws<;>exact r
    |cons m l ih=>intro ws hm r;induction ws using List.casesOn with
     |nil=>exact r.elim
     |cons w ws=>exact⟨rmv m w (hm m (.head _)) r.1,ih ws (fun m Ho=>hm m (.tail _ Ho)) r.2⟩
   refine this _ _ (fun m hm=>?_) hr;unfold items at hm;rw[List.mem_reverse,List.mem_append]at hm;rcases hm with hm|hm
   ·exact hv m hm
   ·obtain⟨d,_,rfl⟩:=List.mem_map.mp hm;rfl
  |dict l=>
   refine bc fun bf=>?_;obtain⟨o1,gM,hd,hr⟩:=c;obtain⟨l',hl⟩:=I.D1 i l e;refine bf ?_;refine⟨tt o1,gM,DictOf.at hd (kk o1),?_⟩;have:∀(l:List (Str×ag)) (l':List (Str×D)) (ws:List (Str×Value)),p8 l=some l'->gh W g l ws->gh W (sG g g') l ws:=by
    intro l
    induction l with
    |nil=>intro l' ws _ r;cases ws<;>exact r
    |cons p l ih=>intro l' ws hm r;induction ws using List.casesOn with
     |nil=>exact r.elim
     |cons w ws=>
      obtain⟨k',m⟩:=p;revert r;exact JG (motive:=fun m=>gh W g ((k',m)::l) (w::ws)->gh W (sG g g') ((k',m)::l) (w::ws)) hm fun x h=>DW h fun r' q _ r=>⟨r.1,dQ.mono P.bm r.2.1,ih _ ws q r.2.2⟩
   exact this _ _ _ hl hr
  |inst k' l=>exact absurd rfl (z k' l)
  |yu x=>exact dQ.mono P.bm c
 ·cases z:nS (g.O a)with
  |true=>
   refine n7 (un a o e (Gb _ z)) fun x _ y=>?_;exact⟨x,Yy a z,y⟩
  |false=>
   have q:g.O a=.no:=by
    revert z f;cases g.O a<;>intro f z<;>first|rfl|(cases z;done)|exact False.elim f
   refine bc fun bf=>?_;obtain⟨x,y,w⟩:=un a o e (by rw[q];rfl);refine bf ?_;exact⟨x,by rw[JN a z,y,q];rfl,w⟩
 ·cases z:nS (g.O a)with
  |true=>exact .inl (Yy a z)
  |false=>
   refine az (JN a z) ?_;cases w:g.O a with
   |no=>rw[w]at f;exact(f trivial).elim
   |fr=>rw[w]at z;cases z
   |t i=>rw[w]at z;cases z
   |b i=>
    have:(xN g fr).O a=.b i:=by rw[JL a o e,w];rfl
    obtain⟨_,q⟩:=P.co a o (k a o e) (by rw[this];exact id);rw[this]at q;rcases q with q|q
    ·left;rw[q];rfl
    ·right;rw[q];rfl
end
structure Nm where
 fn:Nat->Str
 cls:Nat->Str
 tab:Str
 tup:Str
 attrs:List Str
noncomputable def uj(x:Str):List Str->Bool
 |[]=>false
 |y::l=>fb y x||uj x l
noncomputable abbrev Sc:=List (Str×NameKind)
noncomputable def dG(sc:Sc)(x:Str):Option NameKind:=dF x sc
noncomputable def Ub(sc:Sc)(x:Str):Bool:=match dG sc x with
 |some .local=>true
 |some .cell=>true
 |some .free=>true
 |_=>false
noncomputable def fk(sc:Sc)(x:Str):Bool:=match dG sc x with
 |some .local=>true
 |some .cell=>true
 |_=>false
noncomputable def gS(sc:Sc)(x:Str):Bool:=match dG sc x with
 |some .globalImplicit=>true
 |_=>false
noncomputable def nh:Str:=⟨⟨[95,95,100,101,98,117,103,95,95]⟩⟩
noncomputable def yx:Str:=⟨⟨[108,101,110]⟩⟩
noncomputable def zk:Str:=⟨⟨[114,97,110,103,101]⟩⟩
noncomputable def JO:Str:=⟨⟨[115,116,114]⟩⟩
noncomputable def D4:Str:=⟨⟨[108,105,115,116]⟩⟩
noncomputable def zl:Str:=⟨⟨[116,117,112,108,101]⟩⟩
noncomputable def BD:Str:=⟨⟨[97,112,112,101,110,100]⟩⟩
noncomputable def BE:Str:=⟨⟨[101,120,116,101,110,100]⟩⟩
noncomputable def O7:Str:=⟨⟨[112,111,112]⟩⟩
noncomputable def BF:Str:=⟨⟨[117,112,100,97,116,101]⟩⟩
noncomputable def O8:Str:=⟨⟨[103,101,116]⟩⟩
noncomputable def Qv:Str:=⟨⟨[46,48]⟩⟩
noncomputable def ni:Str:=⟨⟨[]⟩⟩
noncomputable def BG:Str:=⟨⟨[95,95,99,108,97,115,115,100,105,99,116,95,95]⟩⟩
noncomputable def kC(y x:Str):Bool:=fb y x&& !fb y nh&& !fb y ni&& !fb y BG
noncomputable def Uc:Op->Operator
 |.add=>.Add
 |.sub=>.Sub
 |.mul=>.Mult
 |.fdiv=>.FloorDiv
 |.mod=>.Mod
 |.pow=>.Pow
noncomputable def Ud:CO->CmpOp
 |.eq=>.Eq
 |.ne=>.NotEq
 |.lt=>.Lt
 |.gt=>.Gt
 |.is=>.Is
 |.nW=>.IsNot
 |.isin=>.In
 |.yv=>.NotIn
noncomputable def Hp(p:Op)(o:Operator):Bool:=decide (o=Uc p)
noncomputable def Qw(p:CO)(o:CmpOp):Bool:=decide (o=Ud p)
theorem Ge{p:Op}{o:Operator}(h:Hp p o=true):o=Uc p:=of_decide_eq_true h
theorem M5{p:CO}{o:CmpOp}(h:Qw p o=true):o=Ud p:=of_decide_eq_true h
noncomputable def notStar(x:Expr):Bool:=by
 induction x using Expr.casesOn with
 |Starred a b=>exact false
 |_=>exact true
noncomputable def jG(ck:E->Expr->Bool):List E->List Expr->Bool
 |[],[]=>true
 |e::es,x::xs=>notStar x&&ck e x&&jG ck es xs
 |_,_=>false
noncomputable def M6(ck:E->Expr->Bool):Option E->Option Expr->Bool
 |none,none=>true
 |some e,some x=>ck e x
 |_,_=>false
noncomputable def uL(x:Expr):Bool:=by
 induction x using Expr.casesOn with
 |Name a b=>exact true
 |_=>exact false
noncomputable def uM:Expr->Bool
 |.ListComp ..=>true
 |.SetComp ..=>true
 |.DictComp ..=>true
 |_=>false
noncomputable def sH(vn sc:Sc)(tg:Str)(fv:List Str):Bool:=
 (sc.all fun p=>match p.2 with
  |.local=>(fb p.1 tg||fb p.1 Qv)&&(match dG sc p.1 with|some .local=>true|_=>false)
  |.free=>match dG vn p.1 with
   |some .cell=>true
   |some .free=>true
   |_=>false
  |.globalImplicit=>true
  |_=>false)&&
 (match dG sc tg with|some .local=>true|_=>false)&&
 (fv.all fun x=>match dG sc x with|some .free=>true|_=>false)
noncomputable def zm(vn:Sc)(p:Str×NameKind):Str×NameKind:=match p.2 with
 |.free=>match dG vn p.1 with
  |some .cell=>(p.1,.cell)
  |_=>p
 |_=>p
noncomputable def pU(vn sc:Sc):Sc:=sc.map (zm vn)
noncomputable def isSet:Expr->Bool
 |.Set ..=>true
 |_=>false
noncomputable def distinct:List Str->Bool
 |[]=>true
 |x::l=>l.all (fun y=> !fb x y)&&distinct l
theorem ff{P:Prop}(h:false=true):P:=Bool.noConfusion h
theorem cx{a b:Bool}(h:(a&&b)=true):a=true/\b=true:=Bool.and_eq_true_iff.mp h
theorem dU{P:Prop}{a b:Bool}(h:(a&&b)=true)(k:a=true->b=true->P):P:=k (cx h).1 (cx h).2
theorem iA{P:Prop}{a b c:Bool}(h:(a&&(b&&c))=true)(k:a=true->b=true->c=true->P):P:=dU h fun x h=>dU h (k x)
theorem l4{P:Prop}{a b c d:Bool}(h:(a&&(b&&(c&&d)))=true)(k:a=true->b=true->c=true->d=true->P):P:=dU h fun x h=>iA h (k x)
theorem qn{P:Prop}{a b c d e:Bool}(h:(a&&(b&&(c&&(d&&e))))=true)(k:a=true->b=true->c=true->d=true->e=true->P):P:=dU h fun x h=>l4 h (k x)
theorem Qx{P:Prop}{a b c d e f:Bool}(h:(a&&(b&&(c&&(d&&(e&&f)))))=true)(k:a=true->b=true->c=true->d=true->e=true->f=true->P):P:=dU h fun x h=>qn h (k x)
theorem vq{P:Prop}{a b c d e f g:Bool}(h:(a&&(b&&(c&&(d&&(e&&(f&&g))))))=true)(k:a=true->b=true->c=true->d=true->e=true->f=true->g=true->P):P:=dU h fun x h=>Qx h (k x)
noncomputable def uN(x:Expr)(k:Const->Nat->Pos->Bool):Bool:=by
 induction x using Expr.casesOn with
 |Constant a b c=>exact k a b c
 |_=>exact false
@[elab_as_elim] theorem sI{motive:Expr->Prop}{x:Expr}{k:Const->Nat->Pos->Bool}(h:uN x k=true)(H:∀a b c,k a b c=true->motive (.Constant a b c)):motive x:=by
 revert h
 induction x using Expr.casesOn with
 |Constant a b c=>exact H a b c
 |_=>exact ff
noncomputable def Ue(x:Expr)(k:UnaryOp->Expr->Pos->Bool):Bool:=by
 induction x using Expr.casesOn with
 |UnaryOp a b c=>exact k a b c
 |_=>exact false
@[elab_as_elim] theorem Qy{motive:Expr->Prop}{x:Expr}{k:UnaryOp->Expr->Pos->Bool}(h:Ue x k=true)(H:∀a b c,k a b c=true->motive (.UnaryOp a b c)):motive x:=by
 revert h
 induction x using Expr.casesOn with
 |UnaryOp a b c=>exact H a b c
 |_=>exact ff
noncomputable def iQ(x:Expr)(k:Str->Pos->Bool):Bool:=by
 induction x using Expr.casesOn with
 |Name a b=>exact k a b
 |_=>exact false
@[elab_as_elim] theorem dW{motive:Expr->Prop}{x:Expr}{k:Str->Pos->Bool}(h:iQ x k=true)(H:∀a b,k a b=true->motive (.Name a b)):motive x:=by
 revert h
 induction x using Expr.casesOn with
 |Name a b=>exact H a b
 |_=>exact ff
noncomputable def sJ(x:Expr)(k:Expr->Str->Pos->Bool):Bool:=by
 induction x using Expr.casesOn with
 |Attribute a b c=>exact k a b c
 |_=>exact false
@[elab_as_elim] theorem lr{motive:Expr->Prop}{x:Expr}{k:Expr->Str->Pos->Bool}(h:sJ x k=true)(H:∀a b c,k a b c=true->motive (.Attribute a b c)):motive x:=by
 revert h
 induction x using Expr.casesOn with
 |Attribute a b c=>exact H a b c
 |_=>exact ff
noncomputable def yz(x:Expr)(k:Expr->Expr->Pos->Bool):Bool:=by
 induction x using Expr.casesOn with
 |Subscript a b c=>exact k a b c
 |_=>exact false
@[elab_as_elim] theorem pn{motive:Expr->Prop}{x:Expr}{k:Expr->Expr->Pos->Bool}(h:yz x k=true)(H:∀a b c,k a b c=true->motive (.Subscript a b c)):motive x:=by
 revert h
 induction x using Expr.casesOn with
 |Subscript a b c=>exact H a b c
 |_=>exact ff
noncomputable def zo(x:Expr)(k:Option Expr->Option Expr->Option Expr->Pos->Bool):Bool:=by
 induction x using Expr.casesOn with
 |Slice a b c d=>exact k a b c d
 |_=>exact false
@[elab_as_elim] theorem yA{motive:Expr->Prop}{x:Expr}{k:Option Expr->Option Expr->Option Expr->Pos->Bool}(h:zo x k=true)(H:∀a b c d,k a b c d=true->motive (.Slice a b c d)):motive x:=by
 revert h
 induction x using Expr.casesOn with
 |Slice a b c d=>exact H a b c d
 |_=>exact ff
noncomputable def JP(x:Expr)(k:Expr->Operator->Expr->Pos->Bool):Bool:=by
 induction x using Expr.casesOn with
 |BinOp a b c d=>exact k a b c d
 |_=>exact false
@[elab_as_elim] theorem Gf{motive:Expr->Prop}{x:Expr}{k:Expr->Operator->Expr->Pos->Bool}(h:JP x k=true)(H:∀a b c d,k a b c d=true->motive (.BinOp a b c d)):motive x:=by
 revert h
 induction x using Expr.casesOn with
 |BinOp a b c d=>exact H a b c d
 |_=>exact ff
noncomputable def O9(x:Expr)(k:Expr->List CmpOp->List Expr->Pos->Bool):Bool:=by
 induction x using Expr.casesOn with
 |Compare a b c d=>exact k a b c d
 |_=>exact false
@[elab_as_elim] theorem Gg{motive:Expr->Prop}{x:Expr}{k:Expr->List CmpOp->List Expr->Pos->Bool}(h:O9 x k=true)(H:∀a b c d,k a b c d=true->motive (.Compare a b c d)):motive x:=by
 revert h
 induction x using Expr.casesOn with
 |Compare a b c d=>exact H a b c d
 |_=>exact ff
noncomputable def D5(x:Expr)(k:BoolOp->List Expr->Pos->Bool):Bool:=by
 induction x using Expr.casesOn with
 |BoolOp a b c=>exact k a b c
 |_=>exact false
@[elab_as_elim] theorem BH{motive:Expr->Prop}{x:Expr}{k:BoolOp->List Expr->Pos->Bool}(h:D5 x k=true)(H:∀a b c,k a b c=true->motive (.BoolOp a b c)):motive x:=by
 revert h
 induction x using Expr.casesOn with
 |BoolOp a b c=>exact H a b c
 |_=>exact ff
noncomputable def Ug(x:Expr)(k:Expr->Expr->Expr->Pos->Bool):Bool:=by
 induction x using Expr.casesOn with
 |IfExp a b c d=>exact k a b c d
 |_=>exact false
@[elab_as_elim] theorem Qz{motive:Expr->Prop}{x:Expr}{k:Expr->Expr->Expr->Pos->Bool}(h:Ug x k=true)(H:∀a b c d,k a b c d=true->motive (.IfExp a b c d)):motive x:=by
 revert h
 induction x using Expr.casesOn with
 |IfExp a b c d=>exact H a b c d
 |_=>exact ff
noncomputable def yB(x:Expr)(k:List Expr->Nat->Pos->Bool):Bool:=by
 induction x using Expr.casesOn with
 |Tuple a b c=>exact k a b c
 |_=>exact false
@[elab_as_elim] theorem qW{motive:Expr->Prop}{x:Expr}{k:List Expr->Nat->Pos->Bool}(h:yB x k=true)(H:∀a b c,k a b c=true->motive (.Tuple a b c)):motive x:=by
 revert h
 induction x using Expr.casesOn with
 |Tuple a b c=>exact H a b c
 |_=>exact ff
noncomputable def JQ(x:Expr)(k:List Expr->Pos->Bool):Bool:=by
 induction x using Expr.casesOn with
 |List a b=>exact k a b
 |_=>exact false
@[elab_as_elim] theorem JR{motive:Expr->Prop}{x:Expr}{k:List Expr->Pos->Bool}(h:JQ x k=true)(H:∀a b,k a b=true->motive (.List a b)):motive x:=by
 revert h
 induction x using Expr.casesOn with
 |List a b=>exact H a b
 |_=>exact ff
noncomputable def JS(x:Expr)(k:List (Option Expr)->List Expr->Pos->Bool):Bool:=by
 induction x using Expr.casesOn with
 |Dict a b c=>exact k a b c
 |_=>exact false
@[elab_as_elim] theorem JT{motive:Expr->Prop}{x:Expr}{k:List (Option Expr)->List Expr->Pos->Bool}(h:JS x k=true)(H:∀a b c,k a b c=true->motive (.Dict a b c)):motive x:=by
 revert h
 induction x using Expr.casesOn with
 |Dict a b c=>exact H a b c
 |_=>exact ff
noncomputable def zq(x:Expr)(k:Expr->List Expr->List Keyword->Pos->Bool):Bool:=by
 induction x using Expr.casesOn with
 |Call a b c d=>exact k a b c d
 |_=>exact false
@[elab_as_elim] theorem vr{motive:Expr->Prop}{x:Expr}{k:Expr->List Expr->List Keyword->Pos->Bool}(h:zq x k=true)(H:∀a b c d,k a b c d=true->motive (.Call a b c d)):motive x:=by
 revert h
 induction x using Expr.casesOn with
 |Call a b c d=>exact H a b c d
 |_=>exact ff
noncomputable def JU(x:Expr)(k:Expr->List Comprehension->Scope->Pos->Bool):Bool:=by
 induction x using Expr.casesOn with
 |ListComp a b c d=>exact k a b c d
 |_=>exact false
@[elab_as_elim] theorem JV{motive:Expr->Prop}{x:Expr}{k:Expr->List Comprehension->Scope->Pos->Bool}(h:JU x k=true)(H:∀a b c d,k a b c d=true->motive (.ListComp a b c d)):motive x:=by
 revert h
 induction x using Expr.casesOn with
 |ListComp a b c d=>exact H a b c d
 |_=>exact ff
noncomputable def MI{α:Type}(l:List α)(k:Bool):Bool:=match l with|[]=>k|_::_=>false
noncomputable def yC{α:Type}(l:List α)(k:α->Bool):Bool:=match l with|[]=>false|x::l=>MI l (k x)
noncomputable def Uh{α:Type}(l:List α)(k:α->α->Bool):Bool:=match l with|[]=>false|x::l=>yC l (k x)
@[elab_as_elim] theorem tN{α:Type}{motive:List α->Prop}{l:List α}{k:Bool}(h:MI l k=true)(H:k=true->motive []):motive l:=by
 rcases l with _|_<;>first|exact H h|exact ff h
@[elab_as_elim] theorem jh{α:Type}{motive:List α->Prop}{l:List α}{k:α->Bool}(h:yC l k=true)(H:∀x,k x=true->motive [x]):motive l:=by
 induction l using List.casesOn with
 |nil=>exact ff h
 |cons x l=>exact tN (motive:=fun l=>motive (x::l)) h (H x)
@[elab_as_elim] theorem Gi{α:Type}{motive:List α->Prop}{l:List α}{k:α->α->Bool}(h:Uh l k=true)(H:∀x y,k x y=true->motive [x,y]):motive l:=by
 induction l using List.casesOn with
 |nil=>exact ff h
 |cons x l=>exact jh (motive:=fun l=>motive (x::l)) h (H x)
noncomputable def vt{α:Type}(o:Option α)(k:Bool):Bool:=match o with|none=>k|some _=>false
noncomputable def qo{α:Type}(o:Option α)(k:α->Bool):Bool:=match o with|none=>false|some x=>k x
@[elab_as_elim] theorem qX{α:Type}{motive:Option α->Prop}{l:Option α}{k:Bool}(h:vt l k=true)(H:k=true->motive none):motive l:=by
 rcases l with _|_<;>first|exact H h|exact ff h
@[elab_as_elim] theorem qY{α:Type}{motive:Option α->Prop}{l:Option α}{k:α->Bool}(h:qo l k=true)(H:∀x,k x=true->motive (some x)):motive l:=by
 rcases l with _|_<;>first|exact H _ h|exact ff h
noncomputable def JW(c:Const)(k:Int->Bool):Bool:=by
 induction c using Const.casesOn with
 |int j=>exact k j
 |_=>exact false
@[elab_as_elim] theorem M7{motive:Const->Prop}{c:Const}{k:Int->Bool}(h:JW c k=true)(H:∀j,k j=true->motive (.int j)):motive c:=by
 revert h
 induction c using Const.casesOn with
 |int j=>exact H j
 |_=>exact ff
noncomputable def Pa(c:Const)(d:D):Bool:=match d with
 |.none=>match c with|.none=>true|_=>false
 |.bool b=>match c with|.bool e=>b==e|_=>false
 |.int i=>JW c fun j=>decide (i=j)
 |.str s=>match c with|.str t=>fb t s|_=>false
 |_=>false
theorem M8{motive:Const->D->Prop}{c:Const}{d:D}(h:Pa c d=true)(h0:motive .none .none)(h1:∀b,motive (.bool b) (.bool b))(h2:∀i,motive (.int i) (.int i))(h3:∀s,motive (.str s) (.str s)):motive c d:=by
 induction d using PyData.casesOn with
 |none=>rcases c with _|_<;>first|exact h0|exact ff h
 |bool b=>rcases c with _|_<;>first|exact ff h|exact eq_of_beq h▸h1 _
 |int b=>rcases c with _|_<;>first|exact ff h|exact of_decide_eq_true h▸h2 _
 |str b=>rcases c with _|_<;>first|exact ff h|exact bj.mp h▸h3 _
 |_=>exact ff h
noncomputable def Ui:UnaryOp->Bool
 |.USub=>true
 |_=>false
noncomputable def Uj:Operator->Bool
 |.Sub=>true
 |_=>false
noncomputable def Pb:BoolOp->Bool
 |.And=>true
 |.Or=>false
noncomputable def oh(x:Expr):Bool:=by
 induction x using Expr.casesOn with
 |Slice a b c d=>exact false
 |_=>exact true
noncomputable def pv(x:Expr):Bool:=by
 induction x using Expr.casesOn with
 |Call a b c d=>exact false
 |_=>exact true
noncomputable def zr(o k:E):Bool:=match o with
 |.var _=>match k with|.var _=>true|_=>false
 |_=>false
noncomputable def Pc(x:Expr)(k:Expr->Expr->Pos->Bool):Bool:=D5 x fun o vs p=>Pb o&&Uh vs fun v w=>k v w p
noncomputable def Uk(x:Expr)(k:Expr->Expr->Pos->Bool):Bool:=D5 x fun o vs p=> !Pb o&&Uh vs fun v w=>k v w p
@[elab_as_elim] theorem Gj{motive:Expr->Prop}{x:Expr}{k:Expr->Expr->Pos->Bool}(h:Pc x k=true)(H:∀v w p,k v w p=true->motive (.BoolOp .And [v,w] p)):motive x:=
 BH h fun o _ p h=>dU h fun ho h=>by
  have e:o=.And:=by rcases o with _|_<;>first|rfl|exact ff ho
  subst e;exact Gi (motive:=fun vs=>motive (.BoolOp .And vs p)) h fun v w h=>H v w p h
@[elab_as_elim] theorem JX{motive:Expr->Prop}{x:Expr}{k:Expr->Expr->Pos->Bool}(h:Uk x k=true)(H:∀v w p,k v w p=true->motive (.BoolOp .Or [v,w] p)):motive x:=
 BH h fun o _ p h=>dU h fun ho h=>by
  have e:o=.Or:=by rcases o with _|_<;>first|rfl|exact ff ho
  subst e;exact Gi (motive:=fun vs=>motive (.BoolOp .Or vs p)) h fun v w h=>H v w p h
@[elab_as_elim] theorem yD{motive:E->E->Prop}{o k:E}(h:zr o k=true)(H:∀x y,motive (.var x) (.var y)):motive o k:=by
 revert h
 induction o using E.casesOn with
 |var x=>
  induction k using E.casesOn with
  |var y=>exact fun _=>H x y
  |_=>exact ff
 |_=>exact ff
noncomputable def onStr(c:Const)(k:Str->Bool):Bool:=by
 induction c using Const.casesOn with
 |str j=>exact k j
 |_=>exact false
@[elab_as_elim] theorem M9{motive:Const->Prop}{c:Const}{k:Str->Bool}(h:onStr c k=true)(H:∀j,k j=true->motive (.str j)):motive c:=by
 revert h
 induction c using Const.casesOn with
 |str j=>exact H j
 |_=>exact ff
noncomputable def Gk:List Str->List (Option Expr)->Bool
 |[],[]=>true
 |k::ks,x::xs=>qo x (fun x=>uN x fun c _ _=>onStr c fun y=>fb y k)&&Gk ks xs
 |_,_=>false
noncomputable def kS(x:Expr)(k:Str->Pos->List Expr->Pos->Bool):Bool:=zq x fun f as ks p=>iQ f fun z zp=>MI ks (k z zp as p)
@[elab_as_elim] theorem gZ{motive:Expr->Prop}{x:Expr}{k:Str->Pos->List Expr->Pos->Bool}(h:kS x k=true)(H:∀z zp as p,k z zp as p=true->motive (.Call (.Name z zp) as [] p)):motive x:=
 vr h fun _ as _ p h=>dW (motive:=fun f=>motive (.Call f as _ p)) h fun z zp h=>tN (motive:=fun ks=>motive (.Call (.Name z zp) as ks p)) h fun h=>H z zp as p h
noncomputable def pz(x:Expr)(k:Expr->Str->Pos->List Expr->Pos->Bool):Bool:=zq x fun f as ks p=>sJ f fun v m ap=>MI ks (k v m ap as p)
@[elab_as_elim] theorem mE{motive:Expr->Prop}{x:Expr}{k:Expr->Str->Pos->List Expr->Pos->Bool}(h:pz x k=true)(H:∀v m ap as p,k v m ap as p=true->motive (.Call (.Attribute v m ap) as [] p)):motive x:=
 vr h fun _ as _ p h=>lr (motive:=fun f=>motive (.Call f as _ p)) h fun v m ap h=>tN (motive:=fun ks=>motive (.Call (.Attribute v m ap) as ks p)) h fun h=>H v m ap as p h
noncomputable def D6(x:Expr)(k:Str->Pos->Str->Pos->Str->Pos->Pos->Expr->Pos->Pos->Pos->Bool):Bool:=yz x fun v s q=>iQ v fun v vp=>zo s fun lo u st sp=>qo lo fun lo=>vt u (vt st (JP lo fun c o w bp=>Uj o&&kS c fun ln lp as cp=>yC as fun a=>iQ a fun v' Jr=>k v vp ln lp v' Jr cp w bp sp q))
@[elab_as_elim] theorem vu{motive:Expr->Prop}{x:Expr}{k:Str->Pos->Str->Pos->Str->Pos->Pos->Expr->Pos->Pos->Pos->Bool}(h:D6 x k=true)(H:∀v vp ln lp v' Jr cp w bp sp q,k v vp ln lp v' Jr cp w bp sp q=true->motive (.Subscript (.Name v vp) (.Slice (some (.BinOp (.Call (.Name ln lp) [.Name v' Jr] [] cp) .Sub w bp)) none none sp) q)):motive x:=
 pn h fun _ s q h=>dW (motive:=fun v=>motive (.Subscript v s q)) h fun v vp h=>yA (motive:=fun s=>motive (.Subscript (.Name v vp) s q)) h fun lo u st sp h=>qY (motive:=fun lo=>motive (.Subscript (.Name v vp) (.Slice lo u st sp) q)) h fun lo h=>
  qX (motive:=fun u=>motive (.Subscript (.Name v vp) (.Slice (some lo) u st sp) q)) h fun h=>qX (motive:=fun st=>motive (.Subscript (.Name v vp) (.Slice (some lo) none st sp) q)) h fun h=>
  Gf (motive:=fun lo=>motive (.Subscript (.Name v vp) (.Slice (some lo) none none sp) q)) h fun c o w bp h=>by
   obtain⟨ho,h⟩:=cx h;have ho:o=.Sub:=by rcases o with _|_<;>first|rfl|exact ff ho
   subst ho;refine gZ (motive:=fun c=>motive (.Subscript (.Name v vp) (.Slice (some (.BinOp c .Sub w bp)) none none sp) q)) h fun ln lp as cp h=>?_;refine jh (motive:=fun as=>motive (.Subscript (.Name v vp) (.Slice (some (.BinOp (.Call (.Name ln lp) as [] cp) .Sub w bp)) none none sp) q)) h fun a h=>?_;exact dW (motive:=fun a=>motive (.Subscript (.Name v vp) (.Slice (some (.BinOp (.Call (.Name ln lp) [a] [] cp) .Sub w bp)) none none sp) q)) h fun v' Jr h=>H v vp ln lp v' Jr cp w bp sp q h
noncomputable def Ul(tg:Str)(g:Comprehension):Bool:=iQ g.target (fun t _=>fb t tg&& !fb t nh)&&(decide (g.is_async=0)&& !isSet g.iter)
noncomputable def vy(ck:E->Expr->Bool)(cond:Option E)(ifs:List Expr):Bool:=match cond with
 |none=>MI ifs true
 |some c=>yC ifs fun z=>ck c z
noncomputable def Um:ScopeKind->Bool
 |.function=>true
 |_=>false
noncomputable def aH(N:Nm):Nat->Sc->E->Expr->Bool
 |0,_,_,_=>false
 |n+1,sc,e,x=>match e with
  |.c d=>uN x fun c _ _=>Pa c d
  |.neg i=>Ue x fun o y _=>Ui o&&uN y fun c _ _=>JW c fun j=>decide (j=(i:Int)+1)
  |.var y=>iQ x fun z _=>kC z y&&Ub sc z
  |.ph f=>iQ x fun z _=>kC z (N.fn f)&&gS sc z
  |.O1 g=>iQ x fun z _=>kC z (match g with|0=>N.tab|_=>N.tup)&&gS sc z
  |.attr o a=>sJ x fun v b _=>uL v&&(fb b a&&(uj a N.attrs&&aH N n sc o v))
  |.sub o i=>yz x fun v w _=>oh w&&(aH N n sc o v&&aH N n sc i w)
  |.DT o lo hi=>yz x fun v s _=>zo s fun l u st _=>vt st (aH N n sc o v&&(M6 (aH N n sc) lo l&&M6 (aH N n sc) hi u))
  |.Bn o k=>D6 x fun v vp ln _ v' _ _ w _ _ _=>fb ln yx&&(!fb ln nh&&(gS sc ln&&(fb v v'&&(aH N n sc o (.Name v vp)&&(aH N n sc k w&&zr o k)))))
  |.bin op l r=>JP x fun v o w _=>Hp op o&&(aH N n sc l v&&aH N n sc r w)
  |.cmp op l r=>O9 x fun v os ws _=>yC os fun o=>yC ws fun w=>Qw op o&&(aH N n sc l v&&(aH N n sc r w&& !isSet w))
  |.cx l r=>Pc x fun v w _=>aH N n sc l v&&aH N n sc r w
  |.Bf l r=>Uk x fun v w _=>aH N n sc l v&&aH N n sc r w
  |.ite c t e=>Ug x fun a b d _=>aH N n sc c a&&(aH N n sc t b&&aH N n sc e d)
  |.tup l=>yB x fun xs _ _=>jG (aH N n sc) l xs&&decide (l.length<=100)
  |.lst _ l=>JQ x fun xs _=>jG (aH N n sc) l xs&&decide (l.length<=100)
  |.Hi _ ks l=>JS x fun ys xs _=>Gk ks ys&&(jG (aH N n sc) l xs&&(decide (ks.length=l.length)&&(decide (l.length<=15)&&distinct ks)))
  |.call f l=>kS x fun z _ xs _=>kC z (N.fn f)&&(gS sc z&&(jG (aH N n sc) l xs&&decide (l.length<=20)))
  |.tH o l=>zq x fun f xs ks _=>yz f fun v w q=>MI ks (aH N n sc o (.Subscript v w q)&&(jG (aH N n sc) l xs&&decide (l.length<=20)))
  |.new k _ l=>kS x fun z _ xs _=>kC z (N.cls k)&&(gS sc z&&(jG (aH N n sc) l xs&&decide (l.length<=20)))
  |.gP e=>aH N n sc e x
  |.len e=>kS x fun z _ xs _=>yC xs fun v=>kC z yx&&(gS sc z&&jG (aH N n sc) [e] [v])
  |.su e=>kS x fun z _ xs _=>yC xs fun v=>kC z zk&&(gS sc z&&jG (aH N n sc) [e] [v])
  |.str e=>kS x fun z _ xs _=>yC xs fun v=>kC z JO&&(gS sc z&&jG (aH N n sc) [e] [v])
  |.sy e=>kS x fun z _ xs _=>yC xs fun v=>kC z D4&&(gS sc z&&jG (aH N n sc) [e] [v])
  |.pj e=>kS x fun z _ xs _=>yC xs fun v=>kC z zl&&(gS sc z&&jG (aH N n sc) [e] [v])
  |.append o y=>pz x fun v m ap as p=>yC as fun w=>fb m BD&&((ap.endLine==p.line)&&(jG (aH N n sc) [y] [w]&&(aH N n sc o v&&pv v)))
  |.extend o y=>pz x fun v m ap as p=>yC as fun w=>fb m BE&&((ap.endLine==p.line)&&(jG (aH N n sc) [y] [w]&&(aH N n sc o v&&pv v)))
  |.pop o=>pz x fun v m ap as p=>MI as (fb m O7&&((ap.endLine==p.line)&&(aH N n sc o v&&pv v)))
  |.update o y=>pz x fun v m ap as p=>yC as fun w=>fb m BF&&((ap.endLine==p.line)&&(jG (aH N n sc) [y] [w]&&(aH N n sc o v&&pv v)))
  |.get o k y=>pz x fun v m ap as p=>Uh as fun w u=>fb m O8&&((ap.endLine==p.line)&&(jG (aH N n sc) [k,y] [w,u]&&(aH N n sc o v&&pv v)))
  |.comp elt tg it cond fv=>JU x fun y gs scope _=>yC gs fun g=>Ul tg g&&(!isSet y&&(aH N n sc it g.iter&&(aH N n (pU sc scope.names) elt y&&(sH sc scope.names tg fv&&(vy (aH N n (pU sc scope.names)) cond g.ifs&&Um scope.kind)))))
noncomputable def vz(sc:Sc):List Str->List Expr->Bool
 |[],[]=>true
 |x::xs,y::ys=>iQ y (fun y _=>fb y x&&fk sc y)&&vz sc xs ys
 |_,_=>false
noncomputable def tO(as:List Str)(ck:E->Expr->Bool):List (E×Str)->List Expr->Bool
 |[],[]=>true
 |p::l,y::xs=>sJ y (fun v b _=>fb b p.2&&(uj p.2 as&&ck p.1 v))&&tO as ck l xs
 |_,_=>false
noncomputable def vA(sc:Sc):List Str->Bool
 |[]=>true
 |x::l=>(match dG sc x with|some .local=>true|_=>false)&&vA sc l
noncomputable def zt(N:Nm)(n:Nat)(sc:Sc)(g:Tg)(e:Expr):Bool:=match g with
 |.x x=>iQ e fun y _=>fb y x&&fk sc y
 |.attr o a=>sJ e fun v b _=>fb b a&&(uj a N.attrs&&aH N n sc o v)
 |.sub o i=>yz e fun v w _=>oh w&&(aH N n sc o v&&aH N n sc i w)
 |.cut o k=>D6 e fun v vp ln _ v' _ _ w _ _ _=>fb ln yx&&(!fb ln nh&&(gS sc ln&&(fb v v'&&(aH N n sc o (.Name v vp)&&(aH N n sc k w&&zr o k)))))
 |.tup xs=>yB e fun ys _ _=>vz sc xs ys&&distinct xs
 |.atts l=>yB e fun ys _ _=>tO N.attrs (aH N n sc) l ys
noncomputable def qZ(ck:T->Stmt->Bool):List T->List Stmt->Bool
 |[],[]=>true
 |t::ts,s::ss=>ck t s&&qZ ck ts ss
 |_,_=>false
noncomputable def Un(sc:Sc)(xs:List Str)(e:Expr):Bool:=match e with
 |.Name y _=>yC xs fun x=>fb y x&&fk sc y
 |.Tuple ys _ _=>vz sc xs ys&&(distinct xs&&decide (2<=xs.length))
 |_=>false
noncomputable def D7(x:Expr):Bool:=by
 induction x using Expr.casesOn with
 |Tuple a b c=>exact true
 |List a b=>exact true
 |_=>exact false
noncomputable def Gl(x:Stmt)(k:Expr->Pos->Bool):Bool:=by
 induction x using Stmt.casesOn with
 |Expr a b=>exact k a b
 |_=>exact false
@[elab_as_elim] theorem Hq{motive:Stmt->Prop}{x:Stmt}{k:Expr->Pos->Bool}(h:Gl x k=true)(H:∀a b,k a b=true->motive (.Expr a b)):motive x:=by
 revert h
 induction x using Stmt.casesOn with
 |Expr a b=>exact H a b
 |_=>exact ff
noncomputable def Pd(x:Stmt)(k:Option Expr->Pos->Bool):Bool:=by
 induction x using Stmt.casesOn with
 |Return a b=>exact k a b
 |_=>exact false
@[elab_as_elim] theorem Na{motive:Stmt->Prop}{x:Stmt}{k:Option Expr->Pos->Bool}(h:Pd x k=true)(H:∀a b,k a b=true->motive (.Return a b)):motive x:=by
 revert h
 induction x using Stmt.casesOn with
 |Return a b=>exact H a b
 |_=>exact ff
noncomputable def JY(x:Stmt)(k:List Expr->Expr->Pos->Bool):Bool:=by
 induction x using Stmt.casesOn with
 |Assign a b c=>exact k a b c
 |_=>exact false
@[elab_as_elim] theorem Gm{motive:Stmt->Prop}{x:Stmt}{k:List Expr->Expr->Pos->Bool}(h:JY x k=true)(H:∀a b c,k a b c=true->motive (.Assign a b c)):motive x:=by
 revert h
 induction x using Stmt.casesOn with
 |Assign a b c=>exact H a b c
 |_=>exact ff
noncomputable def JZ(x:Stmt)(k:Expr->Operator->Expr->Pos->Bool):Bool:=by
 induction x using Stmt.casesOn with
 |AugAssign a b c d=>exact k a b c d
 |_=>exact false
@[elab_as_elim] theorem Gn{motive:Stmt->Prop}{x:Stmt}{k:Expr->Operator->Expr->Pos->Bool}(h:JZ x k=true)(H:∀a b c d,k a b c d=true->motive (.AugAssign a b c d)):motive x:=by
 revert h
 induction x using Stmt.casesOn with
 |AugAssign a b c d=>exact H a b c d
 |_=>exact ff
noncomputable def Pe(x:Stmt)(k:Expr->List Stmt->List Stmt->Pos->Bool):Bool:=by
 induction x using Stmt.casesOn with
 |If a b c d=>exact k a b c d
 |_=>exact false
@[elab_as_elim] theorem Nb{motive:Stmt->Prop}{x:Stmt}{k:Expr->List Stmt->List Stmt->Pos->Bool}(h:Pe x k=true)(H:∀a b c d,k a b c d=true->motive (.If a b c d)):motive x:=by
 revert h
 induction x using Stmt.casesOn with
 |If a b c d=>exact H a b c d
 |_=>exact ff
noncomputable def Uo(x:Stmt)(k:Expr->List Stmt->List Stmt->Pos->Bool):Bool:=by
 induction x using Stmt.casesOn with
 |While a b c d=>exact k a b c d
 |_=>exact false
@[elab_as_elim] theorem QA{motive:Stmt->Prop}{x:Stmt}{k:Expr->List Stmt->List Stmt->Pos->Bool}(h:Uo x k=true)(H:∀a b c d,k a b c d=true->motive (.While a b c d)):motive x:=by
 revert h
 induction x using Stmt.casesOn with
 |While a b c d=>exact H a b c d
 |_=>exact ff
noncomputable def J0(x:Stmt)(k:Expr->Expr->List Stmt->List Stmt->Pos->Bool):Bool:=by
 induction x using Stmt.casesOn with
 |For a b c d e=>exact k a b c d e
 |_=>exact false
@[elab_as_elim] theorem J1{motive:Stmt->Prop}{x:Stmt}{k:Expr->Expr->List Stmt->List Stmt->Pos->Bool}(h:J0 x k=true)(H:∀a b c d e,k a b c d e=true->motive (.For a b c d e)):motive x:=by
 revert h
 induction x using Stmt.casesOn with
 |For a b c d e=>exact H a b c d e
 |_=>exact ff
noncomputable def J2(x:Stmt)(k:Pos->Bool):Bool:=by
 induction x using Stmt.casesOn with
 |Pass a=>exact k a
 |_=>exact false
@[elab_as_elim] theorem J3{motive:Stmt->Prop}{x:Stmt}{k:Pos->Bool}(h:J2 x k=true)(H:∀a,k a=true->motive (.Pass a)):motive x:=by
 revert h
 induction x using Stmt.casesOn with
 |Pass a=>exact H a
 |_=>exact ff
noncomputable def J4(x:Stmt)(k:Pos->Bool):Bool:=by
 induction x using Stmt.casesOn with
 |Continue a=>exact k a
 |_=>exact false
@[elab_as_elim] theorem J5{motive:Stmt->Prop}{x:Stmt}{k:Pos->Bool}(h:J4 x k=true)(H:∀a,k a=true->motive (.Continue a)):motive x:=by
 revert h
 induction x using Stmt.casesOn with
 |Continue a=>exact H a
 |_=>exact ff
noncomputable def J6(x:E):Bool:=by
 induction x using E.casesOn with
 |comp a b c d e=>exact true
 |_=>exact false
noncomputable def Gp(x:Expr):Bool:=by
 induction x using Expr.casesOn with
 |ListComp a b c d=>exact true
 |_=>exact false
noncomputable def isX:Tg->Bool
 |.x _=>true
 |_=>false
noncomputable def Nc:Tg->Bool
 |.atts l=>decide (0<l.length)
 |_=>false
@[elab_as_elim] theorem J7{motive:E->Prop}{e:E}(h:J6 e=true)(H:∀a b c d f,motive (.comp a b c d f)):motive e:=by
 revert h
 induction e using E.casesOn with
 |comp a b c d e=>exact fun _=>H a b c d e
 |_=>exact ff
theorem J8{e e':E}(h:JH e=some e'):e=.su e':=by
 revert h
 induction e using E.casesOn with
 |su e=>exact fun h=>Option.some.inj h▸rfl
 |_=>exact Bp
@[elab_as_elim] theorem Hr{motive:Expr->Prop}{e:Expr}(h:Gp e=true)(H:∀a b c d,motive (.ListComp a b c d)):motive e:=by
 revert h
 induction e using Expr.casesOn with
 |ListComp a b c d=>exact fun _=>H a b c d
 |_=>exact ff
@[elab_as_elim] theorem Hs{motive:Expr->Prop}{e:Expr}(h:uL e=true)(H:∀a b,motive (.Name a b)):motive e:=by
 revert h
 induction e using Expr.casesOn with
 |Name a b=>exact fun _=>H a b
 |_=>exact ff
@[elab_as_elim] theorem Up{motive:Tg->Prop}{e:Tg}(h:isX e=true)(H:∀a,motive (.x a)):motive e:=by
 revert h
 induction e using Tg.casesOn with
 |x a=>exact fun _=>H a
 |_=>exact ff
theorem Bf{a b:Bool}(h:(a||b)=true):a=true\/b=true:=Bool.or_eq_true_iff.mp h
noncomputable def Uq(tg:Tg)(e:E)(x v:Expr):Bool:=
 (uL x&&(!uM v||(J6 e&&(Gp v&&isX tg))))||(!uL x&&(!uM v&&(!D7 x||(!D7 v||Nc tg))))
noncomputable def J9(ys:List Expr):Bool:=Uh ys fun a b=>iQ a fun _ p1=>iQ b fun _ p2=>p1.line==p2.line
noncomputable def isStar(x:Expr):Bool:= !notStar x
noncomputable def l5(N:Nm):Nat->Sc->T->Stmt->Bool
 |0,_,_,_=>false
 |n+1,sc,t,s=>match t with
  |.expr e=>Gl s fun v _=>aH N n sc e v&& !uM v
  |.pass=>J2 s fun _=>true
  |.cont=>J4 s fun _=>true
  |.ret e=>Pd s fun v _=>M6 (aH N n sc) e v
  |.asg tg e=>JY s fun ts v _=>yC ts fun x=>zt N n sc tg x&&(aH N n sc e v&&Uq tg e x v)
  |.MF xs e=>JY s fun ts v _=>yC ts fun x=>yB x fun ys _ _=>yB v fun vs k' p'=>vz sc xs ys&&(distinct xs&&(vA sc xs&&(aH N n sc e (.Tuple vs k' p')&&(decide (xs.length=2)&&(decide (vs.length=2)&&
    (J9 ys&&(!(vs.all (foldedForSure 8))&&(!(vs.all (constantsAlone 8))&& !vs.any isStar))))))))
  |.aug x op e=>JZ s fun t o v _=>iQ t fun y _=>fb y x&&(fk sc y&&(Hp op o&&aH N n sc e v))
  |.DU o a op e=>JZ s fun t o' w _=>sJ t fun v b _=>fb b a&&(uj a N.attrs&&(Hp op o'&&(aH N n sc o v&&aH N n sc e w)))
  |.fM c a b=>Pe s fun x y z _=>aH N n sc c x&&(qZ (l5 N n sc) a y&&qZ (l5 N n sc) b z)
  |.Qg c b=>Uo s fun x y e _=>MI e (aH N n sc c x&&qZ (l5 N n sc) b y)
  |.gQ tg it b=>J0 s fun x i y e _=>MI e (Un sc tg x&&(aH N n sc it i&&(!isSet i&&qZ (l5 N n sc) b y)))
  |.no=>match s with
   |.Raise ..=>true
   |_=>false
end jD
namespace jD
open PySem
noncomputable abbrev dy:Str:=⟨⟨[115,101,108,102]⟩⟩
noncomputable abbrev bT:Str:=⟨⟨[114,111,119,115]⟩⟩
noncomputable abbrev oi:Str:=⟨⟨[115,111,117,114,99,101]⟩⟩
noncomputable abbrev lQ:Str:=⟨⟨[99,111,100,101,115]⟩⟩
noncomputable abbrev sL:Str:=⟨⟨[98,97,114,114,105,101,114]⟩⟩
noncomputable abbrev nj:Str:=⟨⟨[111,112,101,114,97,116,105,111,110,115]⟩⟩
noncomputable abbrev s_row:Str:=⟨⟨[114,111,119]⟩⟩
noncomputable abbrev zu:Str:=⟨⟨[115,104,97,112,101]⟩⟩
noncomputable abbrev d5:Str:=⟨⟨[116,97,107,101,110]⟩⟩
noncomputable abbrev eN:Str:=⟨⟨[108,101,102,116]⟩⟩
noncomputable abbrev bM:Str:=⟨⟨[112,97,114,116,115]⟩⟩
noncomputable abbrev aW:Str:=⟨⟨[97,116]⟩⟩
noncomputable abbrev Ur:Str:=⟨⟨[110]⟩⟩
noncomputable abbrev s_w:Str:=⟨⟨[119]⟩⟩
noncomputable abbrev sM:Str:=⟨⟨[101,108,115,101]⟩⟩
noncomputable abbrev cf:Str:=⟨⟨[102,111,117,110,100]⟩⟩
noncomputable abbrev MJ:Str:=⟨⟨[106]⟩⟩
noncomputable abbrev Us:Str:=⟨⟨[74]⟩⟩
noncomputable abbrev l6:Str:=⟨⟨[109,97,100,101]⟩⟩
noncomputable abbrev kF:Str:=⟨⟨[117,115,101,100]⟩⟩
noncomputable abbrev fV:Str:=⟨⟨[112,108,97,99,101,115]⟩⟩
noncomputable abbrev eD:Str:=⟨⟨[99,111,117,110,116]⟩⟩
noncomputable abbrev eh:Str:=⟨⟨[116,97,98,108,101,115]⟩⟩
noncomputable abbrev dp:Str:=⟨⟨[109,97,114,107,115]⟩⟩
noncomputable abbrev aN:Str:=⟨⟨[104,101,105,103,104,116]⟩⟩
noncomputable abbrev c9:Str:=⟨⟨[98,108,111,99,107,115]⟩⟩
noncomputable abbrev uO:Str:=⟨⟨[108,111,111,112,115]⟩⟩
noncomputable abbrev iY:Str:=⟨⟨[97,99,99,101,112,116,115]⟩⟩
noncomputable abbrev j2:Str:=⟨⟨[101,110,100,101,100]⟩⟩
noncomputable abbrev j3:Str:=⟨⟨[108,97,98,101,108]⟩⟩
noncomputable abbrev eY:Str:=⟨⟨[109,97,114,107]⟩⟩
noncomputable abbrev af:Str:=⟨⟨[103,101,110]⟩⟩
noncomputable abbrev pA:Str:=⟨⟨[110,111,100,101,115]⟩⟩
noncomputable abbrev bh:Str:=⟨⟨[110,111,100,101]⟩⟩
noncomputable abbrev vB:Str:=⟨⟨[114,101,102,117,115,101]⟩⟩
noncomputable abbrev l7:Str:=⟨⟨[110,111,32,115,117,99,104,32,101,120,112,114,101,115,115,105,111,110]⟩⟩
noncomputable abbrev q0:Str:=⟨⟨[112,108,97,99,101,118,97,108,117,101]⟩⟩
noncomputable abbrev da:Str:=⟨⟨[116,97,114,103,101,116]⟩⟩
noncomputable abbrev nk:Str:=⟨⟨[115,116,101,112]⟩⟩
noncomputable abbrev aD:Str:=⟨⟨[115,116,109,116]⟩⟩
noncomputable abbrev fp:Str:=⟨⟨[115,116,97,116,101,109,101,110,116,115]⟩⟩
noncomputable abbrev bo:Str:=⟨⟨[115,116,109,116,115]⟩⟩
noncomputable abbrev zv:Str:=⟨⟨[100,101,99,108]⟩⟩
noncomputable abbrev g8:Str:=⟨⟨[100,101,99,108,115]⟩⟩
noncomputable abbrev ba:Str:=⟨⟨[108,105,110,101]⟩⟩
noncomputable abbrev lu:Str:=⟨⟨[100,101,99,108,97,114,97,116,105,111,110,115]⟩⟩
noncomputable abbrev vC:Str:=⟨⟨[98,101,102,111,114,101]⟩⟩
noncomputable abbrev qp:Str:=⟨⟨[111,112,101,110,95,110,111,119]⟩⟩
noncomputable abbrev sN:Str:=⟨⟨[116,117,114,110]⟩⟩
noncomputable abbrev fN:Str:=⟨⟨[101,110,100,98,108,111,99,107]⟩⟩
noncomputable abbrev Ka:Str:=⟨⟨[100,114,111,112]⟩⟩
noncomputable abbrev sO:Str:=⟨⟨[104,97,110,100,108,101,114]⟩⟩
noncomputable abbrev cV:Str:=⟨⟨[104,97,110,100,108,101,114,115]⟩⟩
noncomputable abbrev iZ:Str:=⟨⟨[111,117,116]⟩⟩
noncomputable abbrev q8:Str:=⟨⟨[97,114,109]⟩⟩
noncomputable abbrev s_end:Str:=⟨⟨[101,110,100]⟩⟩
noncomputable abbrev jN:Str:=⟨⟨[106,117,109,112]⟩⟩
noncomputable abbrev fW:Str:=⟨⟨[109,111,100,101]⟩⟩
noncomputable abbrev nq:Str:=⟨⟨[97,114,103,115]⟩⟩
noncomputable abbrev xO:Str:=⟨⟨[105,110]⟩⟩
noncomputable abbrev fX:Str:=⟨⟨[97,99,116,117,97,108]⟩⟩
noncomputable abbrev dc:Str:=⟨⟨[97,99,116,117,97,108,111,117,116]⟩⟩
noncomputable abbrev jO:Str:=⟨⟨[98,111,100,121]⟩⟩
noncomputable abbrev bH:Str:=⟨⟨[119,111,114,100]⟩⟩
noncomputable abbrev gp:Str:=⟨⟨[98,108,111,99,107]⟩⟩
noncomputable abbrev l8:Str:=⟨⟨[112,97,114,116]⟩⟩
noncomputable abbrev BI:Str:=⟨⟨[114,101,115,117,108,116]⟩⟩
noncomputable abbrev qq:Str:=⟨⟨[110,117,108,108]⟩⟩
noncomputable abbrev vD:Str:=⟨⟨[97,115,115,105,103,110]⟩⟩
noncomputable abbrev QB:Str:=⟨⟨[105,102]⟩⟩
noncomputable abbrev D8:Str:=⟨⟨[99,97,115,101]⟩⟩
noncomputable abbrev D9:Str:=⟨⟨[108,111,111,112]⟩⟩
noncomputable abbrev Ea:Str:=⟨⟨[101,120,105,116]⟩⟩
noncomputable abbrev q9:Str:=⟨⟨[114,97,105,115,101]⟩⟩
noncomputable abbrev mG:Str:=⟨⟨[114,101,116,117,114,110]⟩⟩
noncomputable abbrev cI:Str:=⟨⟨[102,97,109,105,108,121]⟩⟩
noncomputable abbrev mH:Str:=⟨⟨[112,114,101,102,105,120]⟩⟩
noncomputable abbrev nr:Str:=⟨⟨[101,110,116,114,121]⟩⟩
noncomputable abbrev g9:Str:=⟨⟨[104,97,115,95,102,97,109,105,108,121]⟩⟩
noncomputable abbrev cu:Str:=⟨⟨[101,110,116,114,121,99,97,108,108]⟩⟩
noncomputable abbrev gi:Str:=⟨⟨[101,110,100,97,99,99,101,112,116]⟩⟩
noncomputable abbrev sP:Str:=⟨⟨[102,111,114,109,97,108,115]⟩⟩
noncomputable abbrev iE:Str:=⟨⟨[110,111,119,97,105,116]⟩⟩
noncomputable abbrev bw:Str:=⟨⟨[97,99,99,101,112,116]⟩⟩
noncomputable abbrev nu:Str:=⟨⟨[119,105,116,104,95,97,98,111,114,116]⟩⟩
noncomputable abbrev kT:Str:=⟨⟨[104,97,115,95,112,114,101,102,105,120]⟩⟩
noncomputable abbrev cz:Str:=⟨⟨[114,101,113,117,101,117,101]⟩⟩
noncomputable abbrev fq:Str:=⟨⟨[103,117,97,114,100]⟩⟩
noncomputable abbrev cJ:Str:=⟨⟨[107,105,110,100]⟩⟩
noncomputable abbrev bI:Str:=⟨⟨[100,97,116,97]⟩⟩
noncomputable abbrev iF:Str:=⟨⟨[97,108,116,101,114,110,97,116,105,118,101]⟩⟩
noncomputable abbrev rg:Str:=⟨⟨[99,108,111,115,101,100]⟩⟩
noncomputable abbrev mJ:Str:=⟨⟨[105,102,102,97,108,115,101]⟩⟩
noncomputable abbrev bN:Str:=⟨⟨[111,112,101,110,97,99,99,101,112,116]⟩⟩
noncomputable abbrev bE:Str:=⟨⟨[100,101,108,97,121]⟩⟩
noncomputable abbrev de:Str:=⟨⟨[111,112,101,110,100,101,108,97,121]⟩⟩
noncomputable abbrev eH:Str:=⟨⟨[111,112,101,110,101,110,100]⟩⟩
noncomputable abbrev aC:Str:=⟨⟨[97,108,116,101,114,110,97,116,105,118,101,115]⟩⟩
noncomputable abbrev dq:Str:=⟨⟨[111,116,104,101,114]⟩⟩
noncomputable abbrev dC:Str:=⟨⟨[111,116,104,101,114,119,105,115,101]⟩⟩
noncomputable abbrev qs:Str:=⟨⟨[111,112,101,110]⟩⟩
noncomputable abbrev bB:Str:=⟨⟨[115,101,108,101,99,116]⟩⟩
noncomputable abbrev cO:Str:=⟨⟨[98,101,103,105,110,97,99,99,101,112,116]⟩⟩
noncomputable abbrev rh:Str:=⟨⟨[104,111,119]⟩⟩
noncomputable abbrev jP:Str:=⟨⟨[108,97,116,101]⟩⟩
noncomputable abbrev zw:Str:=⟨⟨[117,110,116,105,108]⟩⟩
noncomputable abbrev dK:Str:=⟨⟨[116,114,121,99,97,108,108]⟩⟩
noncomputable abbrev s_call:Str:=⟨⟨[99,97,108,108]⟩⟩
noncomputable abbrev d6:Str:=⟨⟨[97,98,111,114,116]⟩⟩
noncomputable abbrev vE:Str:=⟨⟨[110,97,109,101]⟩⟩
noncomputable abbrev sQ:Str:=⟨⟨[105,115,95,116,121,112,101]⟩⟩
noncomputable abbrev sR:Str:=⟨⟨[101,110,116,114,105,101,115]⟩⟩
noncomputable abbrev j4:Str:=⟨⟨[99,111,110,115,116]⟩⟩
noncomputable abbrev iG:Str:=⟨⟨[111,98,106]⟩⟩
noncomputable abbrev qc:Str:=⟨⟨[108,105,116]⟩⟩
noncomputable abbrev Eb:Str:=⟨⟨[100,105,115,99]⟩⟩
noncomputable abbrev vF:Str:=⟨⟨[99,111,109,112]⟩⟩
noncomputable abbrev ri:Str:=⟨⟨[105,110,100,101,120]⟩⟩
noncomputable abbrev rj:Str:=⟨⟨[115,108,105,99,101]⟩⟩
noncomputable abbrev rn:Str:=⟨⟨[100,101,114,101,102]⟩⟩
noncomputable abbrev ny:Str:=⟨⟨[112,108,97,99,101]⟩⟩
noncomputable abbrev Ec:Str:=⟨⟨[113,117,97,108]⟩⟩
noncomputable abbrev Ed:Str:=⟨⟨[99,111,110,118]⟩⟩
noncomputable abbrev ay:Str:=⟨⟨[100,101,99,107]⟩⟩
noncomputable abbrev qt:Str:=⟨⟨[115,112,111,116]⟩⟩
noncomputable abbrev gT:Str:=⟨⟨[115,99,114,105,112,116]⟩⟩
noncomputable abbrev vG:Str:=⟨⟨[109,97,110,121]⟩⟩
noncomputable abbrev Bi:Str:=⟨⟨[113]⟩⟩
noncomputable abbrev SQ:Str:=⟨⟨[122]⟩⟩
noncomputable abbrev df:Str:=⟨⟨[95]⟩⟩
noncomputable abbrev WW:Str:=⟨⟨[101]⟩⟩
noncomputable abbrev s_p:Str:=⟨⟨[112]⟩⟩
noncomputable abbrev dX:Str:=⟨⟨[100,101,101,112]⟩⟩
noncomputable abbrev bg:Str:=⟨⟨[105,115,95,115,101,114,118,101,100]⟩⟩
noncomputable abbrev kj:Str:=⟨⟨[116,101,114,109,105,110,97,116,101]⟩⟩
noncomputable abbrev iu:Str:=⟨⟨[119,97,121]⟩⟩
noncomputable abbrev aI:Str:=⟨⟨[]⟩⟩
noncomputable abbrev qu:Str:=⟨⟨[101,48]⟩⟩
noncomputable abbrev aM:Str:=⟨⟨[98,111,111,107]⟩⟩
noncomputable abbrev qw:Str:=⟨⟨[116,111,108,100]⟩⟩
noncomputable abbrev vH:Str:=⟨⟨[116,101,120,116]⟩⟩
noncomputable abbrev ro:Str:=⟨⟨[97,115,107,101,100]⟩⟩
noncomputable abbrev hI:Str:=⟨⟨[97,110,115,119,101,114,115]⟩⟩
noncomputable abbrev s_stack:Str:=⟨⟨[115,116,97,99,107]⟩⟩
noncomputable abbrev aQ:Str:=⟨⟨[32]⟩⟩
noncomputable abbrev oj:Str:=⟨⟨[99,111,110,115,116,32,40,48,44,41]⟩⟩
noncomputable abbrev eG:Str:=⟨⟨[115,101,108,101,99,116,32]⟩⟩
noncomputable abbrev BJ:Str:=⟨⟨[99,111,117,110,116,115]⟩⟩
noncomputable abbrev zx:Str:=⟨⟨[110,101,101,100,115]⟩⟩
noncomputable abbrev fg:Str:=⟨⟨[101,110,100,98,111,100,121]⟩⟩
noncomputable abbrev nz:Str:=⟨⟨[103,111,97,108]⟩⟩
noncomputable abbrev bz:Str:=⟨⟨[110,111,32,97,108,116,101,114,110,97,116,105,118,101]⟩⟩
noncomputable abbrev iR:Str:=⟨⟨[99,111,110,115,116,32]⟩⟩
noncomputable abbrev km:Str:=⟨⟨[111,98,106,32]⟩⟩
noncomputable abbrev rp:Str:=⟨⟨[112,97,105,114,115]⟩⟩
noncomputable abbrev dh:Str:=⟨⟨[97,99,116,117,97,108,32,40,41,32]⟩⟩
noncomputable abbrev dY:Str:=⟨⟨[116,97,114,103,101,116,32,40,41,32]⟩⟩
noncomputable abbrev nA:Str:=⟨⟨[112,108,97,99,101,32]⟩⟩
noncomputable abbrev dj:Str:=⟨⟨[97,99,116,117,97,108,111,117,116,32,40,41,32]⟩⟩
noncomputable abbrev Gq:Str:=⟨⟨[97,104,101,97,100]⟩⟩
noncomputable abbrev fY:Str:=⟨⟨[101,110,116,114,121,99,97,108,108,32]⟩⟩
noncomputable abbrev hY:Str:=⟨⟨[116,114,121,99,97,108,108,32]⟩⟩
noncomputable abbrev dz:Str:=⟨⟨[110,111,119,97,105,116,32,40,41,32,91,93]⟩⟩
noncomputable abbrev gy:Str:=⟨⟨[111,112,101,110,97,99,99,101,112,116,32]⟩⟩
noncomputable abbrev ji:Str:=⟨⟨[111,112,101,110,100,101,108,97,121,32]⟩⟩
noncomputable abbrev gH:Str:=⟨⟨[111,112,101,110,101,110,100,32,40,41,32]⟩⟩
noncomputable abbrev dm:Str:=⟨⟨[98,101,103,105,110,97,99,99,101,112,116,32]⟩⟩
noncomputable abbrev dD:Str:=⟨⟨[32,91,93]⟩⟩
noncomputable abbrev dZ:Str:=⟨⟨[101,110,100,97,99,99,101,112,116,32,40,41,32,91,93]⟩⟩
noncomputable abbrev hZ:Str:=⟨⟨[115,116,101,112,32]⟩⟩
noncomputable abbrev om:Str:=⟨⟨[97,99,99,101,112,116,32]⟩⟩
noncomputable abbrev eQ:Str:=⟨⟨[98,108,111,99,107,32,40,39,39,44,41,32,91,93]⟩⟩
noncomputable abbrev fZ:Str:=⟨⟨[97,114,109,32,40,41,32,91,93]⟩⟩
noncomputable abbrev gz:Str:=⟨⟨[101,110,100,98,108,111,99,107,32,40,41,32,91,93]⟩⟩
noncomputable abbrev qx:Str:=⟨⟨[100,101,108,97,121,32]⟩⟩
noncomputable abbrev cv:Str:=⟨⟨[97,98,111,114,116,32,40,41,32]⟩⟩
noncomputable abbrev ia:Str:=⟨⟨[114,101,113,117,101,117,101,32]⟩⟩
noncomputable abbrev YA:Str:=⟨⟨[116]⟩⟩
noncomputable abbrev Ee:Str:=⟨⟨[99,111,100,101]⟩⟩
noncomputable abbrev nB:Str:=⟨⟨[98,111,111,107,115]⟩⟩
noncomputable abbrev Kb:Str:=⟨⟨[100,117,101]⟩⟩
noncomputable abbrev iw:Str:=⟨⟨[45]⟩⟩
noncomputable abbrev jj:Str:=⟨⟨[45,45]⟩⟩
noncomputable abbrev YB:Str:=⟨⟨[111,112]⟩⟩
noncomputable abbrev zy:Str:=⟨⟨[45,45,45,110]⟩⟩
noncomputable abbrev Kc:Str:=⟨⟨[97,116,116,114,111,102]⟩⟩
noncomputable abbrev i4:Str:=⟨⟨[45,45,110]⟩⟩
noncomputable abbrev Ef:Str:=⟨⟨[116,97,115,107,97,116,116,114]⟩⟩
noncomputable abbrev Eg:Str:=⟨⟨[97,99,99,101,115,115,116,111]⟩⟩
noncomputable abbrev Ht:Str:=⟨⟨[115,117,98,116,121,112,101]⟩⟩
noncomputable abbrev Ut:Str:=⟨⟨[110,101,119]⟩⟩
noncomputable abbrev Nd:Str:=⟨⟨[110,101,119,111,102]⟩⟩
noncomputable abbrev QC:Str:=⟨⟨[99,111,112,121]⟩⟩
noncomputable abbrev Hu:Str:=⟨⟨[97,114,114,97,121,111,102]⟩⟩
noncomputable abbrev BK:Str:=⟨⟨[45,45,45]⟩⟩
noncomputable abbrev Eh:Str:=⟨⟨[114,101,99,111,114,100,111,102]⟩⟩
noncomputable abbrev Ei:Str:=⟨⟨[101,120,116,101,110,100,111,102]⟩⟩
noncomputable abbrev Nf:Str:=⟨⟨[99,97,108,108,102]⟩⟩
noncomputable abbrev BL:Str:=⟨⟨[100,105,115,112,97,116,99,104,102]⟩⟩
noncomputable abbrev Ej:Str:=⟨⟨[112,114,111,116,99,97,108,108]⟩⟩
noncomputable abbrev QD:Str:=⟨⟨[45,110]⟩⟩
noncomputable abbrev BM:Str:=⟨⟨[112,108,97,99,101,99,111,109,112]⟩⟩
noncomputable abbrev zz:Str:=⟨⟨[112,108,97,99,101,105,110,100,101,120]⟩⟩
noncomputable abbrev zA:Str:=⟨⟨[112,108,97,99,101,115,108,105,99,101]⟩⟩
noncomputable abbrev zB:Str:=⟨⟨[112,108,97,99,101,100,101,114,101,102]⟩⟩
noncomputable abbrev Kd:Str:=⟨⟨[105,102,116,114,117,101]⟩⟩
noncomputable abbrev Hv:Str:=⟨⟨[97,110,100,106,117,109,112]⟩⟩
noncomputable abbrev Ke:Str:=⟨⟨[111,114,106,117,109,112]⟩⟩
noncomputable abbrev Ng:Str:=⟨⟨[115,116,111,114,101]⟩⟩
noncomputable abbrev BN:Str:=⟨⟨[99,104,111,111,115,101]⟩⟩
noncomputable abbrev Kg:Str:=⟨⟨[45,74]⟩⟩
noncomputable abbrev Ek:Str:=⟨⟨[102,111,114,98,101,103,105,110]⟩⟩
noncomputable abbrev yE:Str:=⟨⟨[45,45,106]⟩⟩
noncomputable abbrev Hw:Str:=⟨⟨[102,111,114,110,101,120,116]⟩⟩
noncomputable abbrev Nh:Str:=⟨⟨[114,111,117,110,100]⟩⟩
noncomputable abbrev QE:Str:=⟨⟨[112,97,99,107]⟩⟩
noncomputable abbrev Hx:Str:=⟨⟨[101,110,100,112,97,99,107]⟩⟩
noncomputable abbrev BO:Str:=⟨⟨[101,110,100,115,117,98]⟩⟩
noncomputable abbrev vJ:Str:=⟨⟨[101,110,100,101,110,116,114,121]⟩⟩
noncomputable abbrev vK:Str:=⟨⟨[101,110,100,100,101,99,108,115]⟩⟩
noncomputable abbrev vL:Str:=⟨⟨[101,110,100,118,97,108,117,101]⟩⟩
noncomputable abbrev Uu:Str:=⟨⟨[115,117,98]⟩⟩
noncomputable abbrev Ni:Str:=⟨⟨[99,97,108,108,112]⟩⟩
noncomputable abbrev BP:Str:=⟨⟨[100,105,115,112,97,116,99,104,112]⟩⟩
noncomputable abbrev BQ:Str:=⟨⟨[98,101,103,105,110,99,101,108,108]⟩⟩
noncomputable abbrev El:Str:=⟨⟨[105,110,105,116,99,101,108,108]⟩⟩
noncomputable abbrev BR:Str:=⟨⟨[102,105,114,115,116,99,101,108,108]⟩⟩
noncomputable abbrev zC:Str:=⟨⟨[108,97,121,115,117,98,116,121,112,101]⟩⟩
noncomputable abbrev Hy:Str:=⟨⟨[108,97,121,116,121,112,101]⟩⟩
noncomputable abbrev Kh:Str:=⟨⟨[108,97,121,115,117,98]⟩⟩
noncomputable abbrev Hz:Str:=⟨⟨[108,97,121,98,111,100,121]⟩⟩
noncomputable abbrev HA:Str:=⟨⟨[108,97,121,112,114,111,116]⟩⟩
noncomputable abbrev Em:Str:=⟨⟨[108,97,121,112,108,97,99,101]⟩⟩
noncomputable abbrev Nj:Str:=⟨⟨[45,110,110]⟩⟩
noncomputable abbrev jQ:Str:=⟨⟨[45,110,110,119,106]⟩⟩
noncomputable abbrev HB:Str:=⟨⟨[45,110,45]⟩⟩
noncomputable abbrev Nk:Str:=⟨⟨[45,74,106]⟩⟩
noncomputable abbrev En:Str:=⟨⟨[45,110,110,45]⟩⟩
noncomputable abbrev Eo:Str:=⟨⟨[115,104,97,112,101,95,111,102]⟩⟩
noncomputable abbrev BU:Str:=⟨⟨[101,102,102,101,99,116,95,111,102]⟩⟩
noncomputable abbrev Ep:Str:=⟨⟨[106,117,109,112,115,95,111,102]⟩⟩
noncomputable abbrev zD:Str:=⟨⟨[119,105,116,104,95,106,117,109,112,115]⟩⟩
noncomputable abbrev HE:Str:=⟨⟨[103,111,101,115,95,111,110]⟩⟩
noncomputable abbrev Uv:Str:=⟨⟨[108,97,121]⟩⟩
noncomputable abbrev Er:Str:=⟨⟨[110,101,119,95,109,97,114,107]⟩⟩
noncomputable abbrev Es:Str:=⟨⟨[112,117,116,95,109,97,114,107]⟩⟩
noncomputable abbrev xP:Str:=⟨⟨[112,108,97,99,101,100,95,114,111,119,115]⟩⟩
noncomputable abbrev zE:Str:=⟨⟨[118,97,108,117,101,95,99,111,100,101]⟩⟩
noncomputable abbrev zF:Str:=⟨⟨[112,108,97,99,101,95,99,111,100,101]⟩⟩
noncomputable abbrev xQ:Str:=⟨⟨[116,97,114,103,101,116,95,99,111,100,101]⟩⟩
noncomputable abbrev sS:Str:=⟨⟨[115,116,97,116,101,109,101,110,116,95,99,111,100,101]⟩⟩
noncomputable abbrev rq:Str:=⟨⟨[115,116,97,116,101,109,101,110,116,115,95,99,111,100,101]⟩⟩
noncomputable abbrev pV:Str:=⟨⟨[100,101,99,108,97,114,97,116,105,111,110,115,95,99,111,100,101]⟩⟩
noncomputable abbrev xR:Str:=⟨⟨[98,108,111,99,107,115,95,108,101,102,116]⟩⟩
noncomputable abbrev vM:Str:=⟨⟨[104,97,110,100,108,101,100,95,99,111,100,101]⟩⟩
noncomputable abbrev vN:Str:=⟨⟨[97,99,116,117,97,108,115,95,99,111,100,101]⟩⟩
noncomputable abbrev zG:Str:=⟨⟨[119,104,111,108,101,95,99,111,100,101]⟩⟩
noncomputable abbrev BV:Str:=⟨⟨[115,116,109,116,95,110,117,108,108]⟩⟩
noncomputable abbrev xS:Str:=⟨⟨[115,116,109,116,95,97,115,115,105,103,110]⟩⟩
noncomputable abbrev HF:Str:=⟨⟨[115,116,109,116,95,105,102]⟩⟩
noncomputable abbrev BW:Str:=⟨⟨[115,116,109,116,95,99,97,115,101]⟩⟩
noncomputable abbrev BX:Str:=⟨⟨[115,116,109,116,95,108,111,111,112]⟩⟩
noncomputable abbrev zH:Str:=⟨⟨[108,111,111,112,95,110,97,109,101,100]⟩⟩
noncomputable abbrev BY:Str:=⟨⟨[115,116,109,116,95,101,120,105,116]⟩⟩
noncomputable abbrev zI:Str:=⟨⟨[115,116,109,116,95,98,108,111,99,107]⟩⟩
noncomputable abbrev zJ:Str:=⟨⟨[115,116,109,116,95,114,97,105,115,101]⟩⟩
noncomputable abbrev zK:Str:=⟨⟨[108,101,97,118,101,95,99,111,100,101]⟩⟩
noncomputable abbrev xT:Str:=⟨⟨[115,116,109,116,95,114,101,116,117,114,110]⟩⟩
noncomputable abbrev zL:Str:=⟨⟨[112,108,97,105,110,95,103,101,110,115]⟩⟩
noncomputable abbrev xU:Str:=⟨⟨[102,97,109,105,108,121,95,99,111,100,101]⟩⟩
noncomputable abbrev BZ:Str:=⟨⟨[99,97,108,108,95,99,111,100,101]⟩⟩
noncomputable abbrev sT:Str:=⟨⟨[115,116,109,116,95,101,110,116,114,121,99,97,108,108]⟩⟩
noncomputable abbrev um:Str:=⟨⟨[97,99,99,101,112,116,101,100,95,99,111,100,101]⟩⟩
noncomputable abbrev xV:Str:=⟨⟨[115,116,109,116,95,97,99,99,101,112,116]⟩⟩
noncomputable abbrev vO:Str:=⟨⟨[115,116,109,116,95,114,101,113,117,101,117,101]⟩⟩
noncomputable abbrev qy:Str:=⟨⟨[97,108,116,101,114,110,97,116,105,118,101,95,99,111,100,101]⟩⟩
noncomputable abbrev sU:Str:=⟨⟨[115,101,108,101,99,116,95,97,99,99,101,112,116,115]⟩⟩
noncomputable abbrev xW:Str:=⟨⟨[115,101,108,101,99,116,95,99,97,108,108]⟩⟩
noncomputable abbrev xX:Str:=⟨⟨[115,116,109,116,95,115,101,108,101,99,116]⟩⟩
noncomputable abbrev zM:Str:=⟨⟨[115,116,109,116,95,100,101,108,97,121]⟩⟩
noncomputable abbrev zO:Str:=⟨⟨[115,116,109,116,95,97,98,111,114,116]⟩⟩
noncomputable abbrev B1:Str:=⟨⟨[116,97,115,107,95,103,101,110,115]⟩⟩
noncomputable abbrev xY:Str:=⟨⟨[118,97,108,117,101,115,95,99,111,100,101]⟩⟩
noncomputable abbrev HG:Str:=⟨⟨[103,101,110,95,108,105,116]⟩⟩
noncomputable abbrev Et:Str:=⟨⟨[103,101,110,95,110,117,108,108]⟩⟩
noncomputable abbrev HH:Str:=⟨⟨[103,101,110,95,111,98,106]⟩⟩
noncomputable abbrev Eu:Str:=⟨⟨[103,101,110,95,100,105,115,99]⟩⟩
noncomputable abbrev Ew:Str:=⟨⟨[103,101,110,95,99,111,109,112]⟩⟩
noncomputable abbrev B2:Str:=⟨⟨[103,101,110,95,105,110,100,101,120]⟩⟩
noncomputable abbrev B3:Str:=⟨⟨[103,101,110,95,115,108,105,99,101]⟩⟩
noncomputable abbrev B4:Str:=⟨⟨[103,101,110,95,100,101,114,101,102]⟩⟩
noncomputable abbrev B5:Str:=⟨⟨[110,97,109,101,95,103,101,110,115]⟩⟩
noncomputable abbrev B6:Str:=⟨⟨[112,108,97,99,101,95,111,98,106]⟩⟩
noncomputable abbrev zP:Str:=⟨⟨[112,108,97,99,101,95,99,111,109,112]⟩⟩
noncomputable abbrev xZ:Str:=⟨⟨[112,108,97,99,101,95,105,110,100,101,120]⟩⟩
noncomputable abbrev x8:Str:=⟨⟨[112,108,97,99,101,95,115,108,105,99,101]⟩⟩
noncomputable abbrev x9:Str:=⟨⟨[112,108,97,99,101,95,100,101,114,101,102]⟩⟩
noncomputable abbrev vP:Str:=⟨⟨[112,108,97,99,101,95,119,105,116,104,105,110]⟩⟩
noncomputable abbrev zQ:Str:=⟨⟨[112,108,97,99,101,95,103,101,110,115]⟩⟩
noncomputable abbrev Ey:Str:=⟨⟨[95,108,97,119,95,112,105,99,107]⟩⟩
noncomputable abbrev B7:Str:=⟨⟨[95,108,97,119,95,116,104,105,110,103]⟩⟩
noncomputable abbrev zR:Str:=⟨⟨[95,108,97,119,95,102,97,109,105,108,121]⟩⟩
noncomputable abbrev Ez:Str:=⟨⟨[95,108,97,119,95,99,97,108,108]⟩⟩
noncomputable abbrev zS:Str:=⟨⟨[95,108,97,119,95,97,99,99,101,112,116]⟩⟩
noncomputable abbrev B8:Str:=⟨⟨[95,108,97,119,95,103,117,97,114,100]⟩⟩
noncomputable abbrev zT:Str:=⟨⟨[95,108,97,119,95,115,101,108,101,99,116]⟩⟩
noncomputable abbrev EA:Str:=⟨⟨[95,108,97,119,95,115,111,109,101]⟩⟩
noncomputable abbrev HI:Str:=⟨⟨[95,108,97,119,95,111,110,101]⟩⟩
noncomputable abbrev EB:Str:=⟨⟨[95,108,97,119,95,109,97,114,107]⟩⟩
noncomputable abbrev B9:Str:=⟨⟨[95,108,97,119,95,114,101,112,108,121]⟩⟩
noncomputable abbrev HJ:Str:=⟨⟨[95,108,97,119,95,114,111,119]⟩⟩
noncomputable abbrev vQ:Str:=⟨⟨[95,108,97,119,95,111,112,101,110,95,114,111,119]⟩⟩
noncomputable abbrev zU:Str:=⟨⟨[95,108,97,119,95,112,108,97,121,101,100]⟩⟩
noncomputable abbrev EC:Str:=⟨⟨[95,108,97,119,95,115,97,121,115]⟩⟩
noncomputable abbrev ya:Str:=⟨⟨[95,108,97,119,95,97,99,116,117,97,108,115]⟩⟩
noncomputable abbrev uq:Str:=⟨⟨[95,108,97,119,95,119,97,108,107,95,99,97,108,108]⟩⟩
noncomputable abbrev rt:Str:=⟨⟨[95,108,97,119,95,119,97,108,107,95,115,101,108,101,99,116]⟩⟩
noncomputable abbrev ED:Str:=⟨⟨[95,108,97,119,95,119,97,108,107]⟩⟩
noncomputable abbrev vR:Str:=⟨⟨[95,108,97,119,95,119,97,108,107,95,111,110,101]⟩⟩
noncomputable abbrev Uw:Str:=⟨⟨[108,97,119]⟩⟩
noncomputable abbrev Pf:Str:=⟨⟨[71,101,110]⟩⟩
noncomputable abbrev vT:Str:=⟨⟨[79,112,101,110,80,97,114,116]⟩⟩
noncomputable abbrev vU:Str:=⟨⟨[84,97,115,107,66,111,100,121]⟩⟩
noncomputable abbrev Ki:Str:=⟨⟨[67,111,100,101]⟩⟩
noncomputable abbrev ru:Str:=⟨⟨[83,72,65,80,69,83]⟩⟩
noncomputable abbrev pB:Str:=⟨⟨[76,69,65,86,73,78,71]⟩⟩
noncomputable abbrev nE:Nat:=1
noncomputable abbrev i5:Nat:=2
noncomputable abbrev nF:Nat:=3
noncomputable abbrev kU:Nat:=4
noncomputable abbrev HK:Nat:=5
noncomputable abbrev cB:Nat:=8
noncomputable abbrev dA:Nat:=9
noncomputable abbrev ee:Nat:=10
noncomputable abbrev j5:Nat:=11
noncomputable abbrev bY:Nat:=12
noncomputable abbrev rz:Nat:=13
noncomputable abbrev l9:Nat:=14
noncomputable abbrev jR:Nat:=15
noncomputable abbrev bW:Nat:=16
noncomputable abbrev kK:Nat:=17
noncomputable abbrev fO:Nat:=18
noncomputable abbrev gU:Nat:=19
noncomputable abbrev oq:Nat:=20
noncomputable abbrev rA:Nat:=21
noncomputable abbrev lR:Nat:=22
noncomputable abbrev mc:Nat:=23
noncomputable abbrev sV:Nat:=24
noncomputable abbrev ot:Nat:=25
noncomputable abbrev ou:Nat:=26
noncomputable abbrev ox:Nat:=28
noncomputable abbrev ib:Nat:=29
noncomputable abbrev nG:Nat:=30
noncomputable abbrev nH:Nat:=31
noncomputable abbrev j6:Nat:=32
noncomputable abbrev rB:Nat:=33
noncomputable abbrev iH:Nat:=34
noncomputable abbrev oy:Nat:=35
noncomputable abbrev ie:Nat:=36
noncomputable abbrev eg:Nat:=37
noncomputable abbrev gD:Nat:=38
noncomputable abbrev f7:Nat:=39
noncomputable abbrev eR:Nat:=40
noncomputable abbrev dM:Nat:=41
noncomputable abbrev du:Nat:=42
noncomputable abbrev gE:Nat:=43
noncomputable abbrev kW:Nat:=44
noncomputable abbrev kY:Nat:=45
noncomputable abbrev tP:Nat:=46
noncomputable abbrev sW:Nat:=49
noncomputable abbrev vV:Nat:=50
noncomputable abbrev sX:Nat:=51
noncomputable abbrev vW:Nat:=52
noncomputable abbrev vX:Nat:=53
noncomputable abbrev tQ:Nat:=54
noncomputable abbrev tR:Nat:=55
noncomputable abbrev tS:Nat:=56
noncomputable abbrev tT:Nat:=57
noncomputable abbrev oz:Nat:=58
noncomputable abbrev rC:Nat:=59
noncomputable abbrev qd:Nat:=60
noncomputable abbrev qe:Nat:=61
noncomputable abbrev qf:Nat:=62
noncomputable abbrev jk:Nat:=63
noncomputable abbrev rD:Nat:=64
noncomputable abbrev aT:Nat:=65
noncomputable abbrev fu:Nat:=66
noncomputable abbrev kZ:Nat:=67
noncomputable abbrev qz:Nat:=68
noncomputable abbrev k5:Nat:=69
noncomputable abbrev lS:Nat:=70
noncomputable abbrev jl:Nat:=71
noncomputable abbrev dO:Nat:=72
noncomputable abbrev gF:Nat:=73
noncomputable abbrev aU:Nat:=74
noncomputable abbrev gj:Nat:=75
noncomputable abbrev sY:Nat:=76
noncomputable abbrev oA:Nat:=77
noncomputable abbrev gq:Nat:=78
noncomputable abbrev cW:Nat:=79
noncomputable abbrev iI:Nat:=80
noncomputable abbrev kG:Nat:=81
noncomputable abbrev aV:Nat:=82
noncomputable abbrev gr:Nat:=83
noncomputable abbrev lx:Nat:=84
noncomputable abbrev nT:Nat:=85
noncomputable def Ca:List T:=[
 .asg (.attr (.var dy) bT) (.var bT),
 .asg (.attr (.var dy) oi) (.var oi),
 .asg (.attr (.var dy) lQ) (.var lQ),
 .asg (.attr (.var dy) sL) (.c .none),
 .asg (.attr (.var dy) nj) (.lst .fz [])]
noncomputable def EE:List T:=[
 .fM (.cmp .yv (.sub (.var s_row) (.c (.int (.ofNat 0)))) (.O1 0)) [.no] [],
 .asg (.x zu) (.sub (.O1 0) (.sub (.var s_row) (.c (.int (.ofNat 0))))),
 .fM (.cmp .ne (.len (.var s_row)) (.bin .add (.c (.int (.ofNat 1))) (.len (.sub (.var zu) (.c (.int (.ofNat 2))))))) [.no] [],
 .ret (some (.var zu))]
noncomputable def Cb:List T:=[
 .asg (.tup [d5,eN,bM]) (.call nE [(.var s_row)]),
 .gQ [aW] (.su (.len (.var bM))) [.fM (.cmp .eq (.sub (.var bM) (.var aW)) (.c (.str Ur))) [.aug d5 .add (.sub (.var s_row) (.bin .add (.var aW) (.c (.int (.ofNat 1)))))] [.fM (.cx (.cmp .eq (.sub (.var bM) (.var aW)) (.c (.str s_w))) (.cmp .ne (.sub (.var s_row) (.bin .add (.var aW) (.c (.int (.ofNat 1))))) (.c (.str sM)))) [.aug d5 .add (.c (.int (.ofNat 1)))] []]],
 .ret (some (.tup [(.var d5),(.var eN)]))]
noncomputable def EF:List T:=[
 .asg (.x bM) (.sub (.call nE [(.var s_row)]) (.c (.int (.ofNat 2)))),
 .asg (.x cf) (.lst .Be []),
 .gQ [aW] (.su (.len (.var bM))) [.fM (.cmp .eq (.sub (.var bM) (.var aW)) (.c (.str MJ))) [.expr (.append (.var cf) (.sub (.var s_row) (.bin .add (.var aW) (.c (.int (.ofNat 1))))))] [.fM (.cmp .eq (.sub (.var bM) (.var aW)) (.c (.str Us))) [.expr (.extend (.var cf) (.sub (.var s_row) (.bin .add (.var aW) (.c (.int (.ofNat 1))))))] []]],
 .ret (some (.var cf))]
noncomputable def zV:List T:=[
 .asg (.x bM) (.sub (.call nE [(.var s_row)]) (.c (.int (.ofNat 2)))),
 .asg (.x l6) (.lst .Be [(.sub (.var s_row) (.c (.int (.ofNat 0))))]),
 .asg (.x kF) (.c (.int (.ofNat 0))),
 .gQ [aW] (.su (.len (.var bM))) [.fM (.cmp .eq (.sub (.var bM) (.var aW)) (.c (.str MJ))) [.expr (.append (.var l6) (.sub (.var fV) (.var kF))),.aug kF .add (.c (.int (.ofNat 1)))] [.fM (.cmp .eq (.sub (.var bM) (.var aW)) (.c (.str Us))) [.asg (.x eD) (.len (.sub (.var s_row) (.bin .add (.var aW) (.c (.int (.ofNat 1)))))),.expr (.append (.var l6) (.sy (.DT (.var fV) (some (.var kF)) (some (.bin .add (.var kF) (.var eD)))))),.aug kF .add (.var eD)] [.expr (.append (.var l6) (.sub (.var s_row) (.bin .add (.var aW) (.c (.int (.ofNat 1))))))]]],
 .ret (some (.pj (.var l6)))]
noncomputable def HL:List T:=[
 .ret (some (.cmp .yv (.sub (.var s_row) (.c (.int (.ofNat 0)))) (.O1 1)))]
noncomputable def EG:List T:=[
 .asg (.attr (.var dy) eh) (.var eh),
 .asg (.attr (.var dy) bT) (.lst (.base [5]) []),
 .asg (.attr (.var dy) dp) (.lst (.base [6]) []),
 .asg (.attr (.var dy) aN) (.c (.int (.ofNat 0))),
 .asg (.attr (.var dy) c9) (.c (.int (.ofNat 0))),
 .asg (.attr (.var dy) uO) (.lst .fz []),
 .asg (.attr (.var dy) iY) (.lst (.base [7]) []),
 .asg (.attr (.var dy) j2) (.call dA [(.var dy)]),
 .asg (.attr (.var dy) lQ) (.lst .fz [])]
noncomputable def ur:List T:=[
 .asg (.attr (.var dy) j3) (.var j3),
 .asg (.attr (.var dy) eY) (.call dA [(.var af)]),
 .asg (.attr (.var dy) aN) (.attr (.var af) aN),
 .asg (.attr (.var dy) c9) (.attr (.var af) c9)]
noncomputable def Ux:List T:=[
 .asg (.tup [d5,eN]) (.call i5 [(.var s_row)]),
 .expr (.append (.attr (.var af) bT) (.var s_row)),
 .DU (.var af) aN .add (.bin .sub (.var eN) (.var d5))]
noncomputable def EH:List T:=[
 .expr (.append (.attr (.var af) dp) (.neg 0)),
 .ret (some (.bin .sub (.len (.attr (.var af) dp)) (.c (.int (.ofNat 1)))))]
noncomputable def EI:List T:=[
 .asg (.sub (.attr (.var af) dp) (.var eY)) (.len (.attr (.var af) bT)),
 .asg (.attr (.var af) aN) (.var aN)]
noncomputable def yb:List T:=[
 .ret (some (.comp (.call kU [(.var s_row),(.comp (.sub (.attr (.var af) dp) (.var eY)) eY (.call nF [(.var s_row)]) none [af])]) s_row (.attr (.var af) bT) none [af]))]
noncomputable def zW:List T:=[
 .asg (.x pA) (.sub (.attr (.var af) eh) (.c (.str pA))),
 .fM (.cmp .isin (.sub (.var bh) (.c (.int (.ofNat 0)))) (.var pA)) [.expr (.tH (.sub (.var pA) (.sub (.var bh) (.c (.int (.ofNat 0))))) [(.var af),(.var bh)])] [.expr (.call cB [(.var af),(.tup [(.c (.str vB)),(.c (.str l7))])])]]
noncomputable def zX:List T:=[
 .asg (.x fV) (.sub (.attr (.var af) eh) (.c (.str fV))),
 .fM (.cmp .isin (.sub (.var bh) (.c (.int (.ofNat 0)))) (.var fV)) [.expr (.tH (.sub (.var fV) (.sub (.var bh) (.c (.int (.ofNat 0))))) [(.var af),(.var bh)])] [.expr (.call bY [(.var af),(.var bh)]),.expr (.call cB [(.var af),(.tup [(.c (.str q0))])])]]
noncomputable def yc:List T:=[
 .expr (.call rz [(.var af),(.var bh)]),
 .expr (.call cB [(.var af),(.tup [(.c (.str da)),(.var bh)])])]
noncomputable def sZ:List T:=[
 .expr (.call cB [(.var af),(.tup [(.c (.str nk)),(.sub (.var aD) (.c (.int (.ofNat 1))))])]),
 .expr (.tH (.sub (.sub (.attr (.var af) eh) (.c (.str fp))) (.sub (.var aD) (.c (.int (.ofNat 0))))) [(.var af),(.var aD)])]
noncomputable def rE:List T:=[
 .gQ [aD] (.var bo) [.expr (.call jR [(.var af),(.var aD)])]]
noncomputable def pW:List T:=[
 .gQ [zv] (.var g8) [.expr (.call cB [(.var af),(.tup [(.c (.str ba)),(.sub (.var zv) (.c (.int (.ofNat 1))))])]),.expr (.tH (.sub (.sub (.attr (.var af) eh) (.c (.str lu))) (.sub (.var zv) (.c (.int (.ofNat 0))))) [(.var af),(.var zv)])]]
noncomputable def yd:List T:=[
 .MF [vC,qp] (.tup [(.attr (.var af) aN),(.attr (.var af) c9)]),
 .gQ [sN] (.su (.bin .sub (.attr (.var af) c9) (.var c9))) [.expr (.call cB [(.var af),(.tup [(.c (.str fN))])])],
 .Qg (.cmp .gt (.attr (.var af) aN) (.var aN)) [.expr (.call cB [(.var af),(.tup [(.c (.str Ka))])])],
 .asg (.atts [((.var af),aN),((.var af),c9)]) (.tup [(.var vC),(.var qp)])]
noncomputable def vY:List T:=[
 .expr (.call kK [(.var af),(.var g8)]),
 .asg (.x dp) (.comp (.call dA [(.var af)]) sO (.var cV) none [af]),
 .asg (.x iZ) (.call dA [(.var af)]),
 .asg (.x aN) (.attr (.var af) aN),
 .expr (.call cB [(.var af),(.tup [(.c (.str q8)),(.comp (.sub (.var sO) (.c (.int (.ofNat 0)))) sO (.var cV) none []),(.var dp)])]),
 .expr (.call bW [(.var af),(.var bo)]),
 .expr (.call ee [(.var af),(.var j2),(.var aN)]),
 .expr (.call cB [(.var af),(.var s_end)]),
 .fM (.cx (.cmp .ne (.var cV) (.lst .fz [])) (.call HK [(.var s_end)])) [.expr (.call cB [(.var af),(.tup [(.c (.str jN)),(.var iZ)])])] [],
 .gQ [aW] (.su (.len (.var cV))) [.expr (.call ee [(.var af),(.sub (.var dp) (.var aW)),(.var aN)]),.expr (.call bW [(.var af),(.sub (.sub (.var cV) (.var aW)) (.c (.int (.ofNat 1))))]),.expr (.call cB [(.var af),(.tup [(.c (.str jN)),(.var j2)])])],
 .expr (.call ee [(.var af),(.var iZ),(.var aN)])]
noncomputable def vZ:List T:=[
 .gQ [fW,bh] (.var nq) [.fM (.cmp .eq (.var fW) (.c (.str xO))) [.expr (.call bY [(.var af),(.var bh)]),.expr (.call cB [(.var af),(.tup [(.c (.str fX))])])] [.expr (.call l9 [(.var af),(.var bh)]),.expr (.call cB [(.var af),(.tup [(.c (.str dc))])])]]]
noncomputable def zY:List T:=[
 .asg (.x af) (.new 0 4 [(.var eh)]),
 .expr (.call gU [(.var af),(.attr (.var jO) g8),(.attr (.var jO) bo),(.attr (.var jO) cV),(.tup [(.var s_end)]),(.attr (.var af) j2)]),
 .ret (some (.new 3 9 [(.call j5 [(.var af)]),(.var jO),(.attr (.var af) lQ)]))]
noncomputable def Cc:List T:=[
 .pass]
noncomputable def zZ:List T:=[
 .asg (.tup [bH,ba,j3,g8,bo,cV]) (.var aD),
 .expr (.call cB [(.var af),(.tup [(.c (.str gp)),(.var j3)])]),
 .DU (.var af) c9 .add (.c (.int (.ofNat 1))),
 .expr (.call gU [(.var af),(.var g8),(.var bo),(.var cV),(.tup [(.c (.str fN))]),(.call dA [(.var af)])]),
 .DU (.var af) c9 .sub (.c (.int (.ofNat 1)))]
noncomputable def z4:List T:=[
 .fM (.cmp .ne (.attr (.var af) iY) (.lst .fz [])) [.asg (.x l8) (.sub (.attr (.var af) iY) (.neg 0)),.expr (.call fO [(.var af),(.attr (.var l8) c9),(.attr (.var l8) aN)]),.expr (.call cB [(.var af),(.tup [(.c (.str jN)),(.attr (.var l8) eY)])])] [.expr (.call fO [(.var af),(.c (.int (.ofNat 0))),(.c (.int (.ofNat 0)))]),.expr (.call cB [(.var af),(.tup [(.c (.str jN)),(.attr (.var af) j2)])])]]
noncomputable def ye:List T:=[
 .fM (.cmp .nW (.sub (.var aD) (.c (.int (.ofNat 2)))) (.c .none)) [.expr (.call bY [(.var af),(.sub (.var aD) (.c (.int (.ofNat 2))))]),.expr (.call cB [(.var af),(.tup [(.c (.str BI))])])] [],
 .expr (.call nH [(.var af)])]
noncomputable def z5:List T:=[
 .ret (some (.Hi (.base [2]) [qq,vD,QB,D8,D9,Ea,gp,q9,mG] [(.ph lR),(.ph mc),(.ph sV),(.ph ot),(.ph ou),(.ph ox),(.ph ib),(.ph nG),(.ph j6)]))]
noncomputable def yf:List T:=[
 .fM (.cmp .is (.var cI) (.c .none)) [.ret (some (.c (.int (.ofNat 0))))] [],
 .expr (.call bY [(.var af),(.var cI)]),
 .ret (some (.c (.int (.ofNat 1))))]
noncomputable def Cg:List T:=[
 .asg (.tup [bH,ba,mH,nr,cI,nq]) (.var aD),
 .expr (.call bY [(.var af),(.var mH)]),
 .asg (.x g9) (.call iH [(.var af),(.var cI)]),
 .expr (.call oq [(.var af),(.var nq)]),
 .ret (some (.tup [(.var g9),(.len (.var nq))]))]
noncomputable def s6:List T:=[
 .asg (.tup [g9,eD]) (.call oy [(.var af),(.var aD)]),
 .expr (.call cB [(.var af),(.tup [(.c (.str cu)),(.sub (.var aD) (.c (.int (.ofNat 3)))),(.var g9),(.var eD)])])]
noncomputable def uu:List T:=[
 .asg (.x l8) (.gP (.new 1 8 [(.var af),(.c .none)])),
 .expr (.append (.attr (.var af) iY) (.var l8)),
 .expr (.call bW [(.var af),(.var bo)]),
 .expr (.pop (.attr (.var af) iY)),
 .expr (.call ee [(.var af),(.attr (.var l8) eY),(.attr (.var l8) aN)]),
 .expr (.call cB [(.var af),(.tup [(.c (.str gi))])])]
noncomputable def yg:List T:=[
 .asg (.tup [bH,ba,nr,cI,sP,bo]) (.var aD),
 .expr (.call cB [(.var af),(.tup [(.c (.str iE))])]),
 .expr (.call cB [(.var af),(.tup [(.c (.str bw)),(.var nr),(.call iH [(.var af),(.var cI)]),(.var sP)])]),
 .expr (.call eg [(.var af),(.var bo)])]
noncomputable def v5:List T:=[
 .asg (.tup [bH,ba,mH,nr,cI,nu]) (.var aD),
 .asg (.x kT) (.c (.int (.ofNat 0))),
 .fM (.cmp .nW (.var mH) (.c .none)) [.expr (.call bY [(.var af),(.var mH)]),.asg (.x kT) (.c (.int (.ofNat 1)))] [],
 .expr (.call cB [(.var af),(.tup [(.c (.str cz)),(.var nr),(.call iH [(.var af),(.var cI)]),(.var kT),(.var nu)])]),
 .expr (.call nH [(.var af)])]
noncomputable def qA:List T:=[
 .asg (.tup [fq,cJ,bI,bo]) (.var iF),
 .asg (.x rg) (.call dA [(.var af)]),
 .fM (.cmp .nW (.var fq) (.c .none)) [.expr (.call bY [(.var af),(.var fq)]),.expr (.call cB [(.var af),(.tup [(.c (.str mJ)),(.var rg)])])] [],
 .asg (.x aN) (.attr (.var af) aN),
 .fM (.cmp .eq (.var cJ) (.c (.str bw))) [.expr (.call cB [(.var af),(.tup [(.c (.str bN)),(.var aW),(.sub (.var bI) (.c (.int (.ofNat 2)))),(.call iH [(.var af),(.sub (.var bI) (.c (.int (.ofNat 3))))])])])] [.fM (.cmp .eq (.var cJ) (.c (.str bE))) [.expr (.call bY [(.var af),(.sub (.var bI) (.c (.int (.ofNat 2))))]),.expr (.call cB [(.var af),(.tup [(.c (.str de)),(.var aW),(.sub (.var bI) (.c (.int (.ofNat 3))))])])] [.expr (.call cB [(.var af),(.tup [(.c (.str eH)),(.var aW)])])]],
 .expr (.call ee [(.var af),(.var rg),(.var aN)])]
noncomputable def s7:List T:=[
 .asg (.tup [bH,ba,aC,dq]) (.var aD),
 .asg (.x dp) (.comp (.call dA [(.var af)]) iF (.var aC) none [af]),
 .MF [dC,iZ] (.tup [(.call dA [(.var af)]),(.call dA [(.var af)])]),
 .expr (.call cB [(.var af),(.tup [(.c (.str qs))])]),
 .gQ [aW] (.su (.len (.var aC))) [.expr (.call eR [(.var af),(.var aW),(.sub (.var aC) (.var aW))])],
 .expr (.call cB [(.var af),(.tup [(.c (.str bB)),(.cmp .nW (.var dq) (.c .none)),(.var dp),(.var dC)])]),
 .asg (.x aN) (.attr (.var af) aN),
 .gQ [aW] (.su (.len (.var aC))) [.asg (.tup [fq,cJ,bI,bo]) (.sub (.var aC) (.var aW)),.expr (.call ee [(.var af),(.sub (.var dp) (.var aW)),(.var aN)]),.fM (.cmp .eq (.var cJ) (.c (.str bw))) [.expr (.call cB [(.var af),(.tup [(.c (.str cO)),(.sub (.var bI) (.c (.int (.ofNat 4))))])]),.expr (.call eg [(.var af),(.sub (.var bI) (.c (.int (.ofNat 5))))])] [],.expr (.call bW [(.var af),(.var bo)]),.expr (.call cB [(.var af),(.tup [(.c (.str jN)),(.var iZ)])])],
 .expr (.call ee [(.var af),(.var dC),(.var aN)]),
 .expr (.call bW [(.var af),(.ite (.cmp .nW (.var dq) (.c .none)) (.var dq) (.lst .fz []))]),
 .expr (.call ee [(.var af),(.var iZ),(.var aN)])]
noncomputable def yh:List T:=[
 .asg (.tup [bH,ba,aC,dq]) (.var aD),
 .MF [dC,iZ] (.tup [(.call dA [(.var af)]),(.call dA [(.var af)])]),
 .asg (.x rh) (.c (.str sM)),
 .fM (.cmp .is (.var dq) (.c .none)) [.asg (.x jP) (.sub (.sub (.var aC) (.c (.int (.ofNat 1)))) (.c (.int (.ofNat 2)))),.expr (.call bY [(.var af),(.sub (.var jP) (.c (.int (.ofNat 2))))]),.asg (.x rh) (.ite (.sub (.var jP) (.c (.int (.ofNat 3)))) (.c (.str zw)) (.c (.str bE)))] [],
 .asg (.tup [g9,eD]) (.call oy [(.var af),(.sub (.sub (.var aC) (.c (.int (.ofNat 0)))) (.c (.int (.ofNat 2))))]),
 .expr (.call cB [(.var af),(.tup [(.c (.str dK)),(.sub (.sub (.sub (.var aC) (.c (.int (.ofNat 0)))) (.c (.int (.ofNat 2)))) (.c (.int (.ofNat 3)))),(.var g9),(.var eD),(.var rh),(.var dC)])]),
 .asg (.x aN) (.attr (.var af) aN),
 .expr (.call bW [(.var af),(.sub (.sub (.var aC) (.c (.int (.ofNat 0)))) (.c (.int (.ofNat 3))))]),
 .expr (.call cB [(.var af),(.tup [(.c (.str jN)),(.var iZ)])]),
 .expr (.call ee [(.var af),(.var dC),(.var aN)]),
 .expr (.call bW [(.var af),(.ite (.cmp .is (.var dq) (.c .none)) (.sub (.sub (.var aC) (.c (.int (.ofNat 1)))) (.c (.int (.ofNat 3)))) (.var dq))]),
 .expr (.call ee [(.var af),(.var iZ),(.var aN)])]
noncomputable def yi:List T:=[
 .expr (.call cB [(.var af),(.tup [(.c (.str iE))])]),
 .fM (.cmp .eq (.sub (.sub (.sub (.var aD) (.c (.int (.ofNat 2)))) (.c (.int (.ofNat 0)))) (.c (.int (.ofNat 1)))) (.c (.str s_call))) [.expr (.call du [(.var af),(.var aD)])] [.expr (.call dM [(.var af),(.var aD)])]]
noncomputable def z6:List T:=[
 .expr (.call cB [(.var af),(.tup [(.c (.str iE))])]),
 .expr (.call bY [(.var af),(.sub (.var aD) (.c (.int (.ofNat 2))))]),
 .expr (.call cB [(.var af),(.tup [(.c (.str bE)),(.sub (.var aD) (.c (.int (.ofNat 3))))])])]
noncomputable def z7:List T:=[
 .gQ [bh] (.sub (.var aD) (.c (.int (.ofNat 2)))) [.expr (.call bY [(.var af),(.var bh)]),.expr (.call cB [(.var af),(.tup [(.c (.str d6))])])]]
noncomputable def Cj:List T:=[
 .ret (some (.Hi (.base [16]) [cu,bw,cz,bB,bE,d6] [(.ph ie),(.ph gD),(.ph f7),(.ph gE),(.ph kW),(.ph kY)]))]
noncomputable def uv:List T:=[
 .asg (.attr (.var dy) vE) (.var vE),
 .asg (.attr (.var dy) sQ) (.c (.bool false)),
 .asg (.attr (.var dy) sR) (.lst .fz []),
 .asg (.attr (.var dy) g8) (.lst .fz []),
 .asg (.attr (.var dy) bo) (.lst .fz []),
 .asg (.attr (.var dy) cV) (.lst .fz [])]
noncomputable def HM:List T:=[
 .expr (.call cB [(.var af),(.tup [(.c (.str j4)),(.sub (.var bh) (.c (.int (.ofNat 2))))])])]
noncomputable def HN:List T:=[
 .expr (.call cB [(.var af),(.tup [(.c (.str iG)),(.sub (.var bh) (.c (.int (.ofNat 2)))),(.sub (.var bh) (.c (.int (.ofNat 3))))])])]
noncomputable def Ck:List T:=[
 .ret (some (.Hi (.base [17]) [qc,qq,iG,Eb,vF,ri,rj,rn] [(.ph sW),(.ph vV),(.ph sX),(.ph vW),(.ph vX),(.ph tQ),(.ph tR),(.ph tS)]))]
noncomputable def Cm:List T:=[
 .expr (.call cB [(.var af),(.tup [(.c (.str ny)),(.sub (.var bh) (.c (.int (.ofNat 2)))),(.sub (.var bh) (.c (.int (.ofNat 3))))])])]
noncomputable def z8:List T:=[
 .ret (some (.Hi (.base [18]) [iG,vF,ri,rj,rn,Ec,Ed] [(.ph oz),(.ph rC),(.ph qd),(.ph qe),(.ph qf),(.ph jk),(.ph jk)]))]
noncomputable def EJ:List T:=[
 .asg (.sub (.var ay) (.c (.str qt))) (.bin .add (.sub (.var ay) (.c (.str qt))) (.c (.int (.ofNat 1)))),
 .fM (.cmp .lt (.sub (.var ay) (.c (.str qt))) (.len (.sub (.var ay) (.c (.str gT))))) [.ret (some (.bin .mod (.sub (.sub (.var ay) (.c (.str gT))) (.sub (.var ay) (.c (.str qt)))) (.var vG)))] [],
 .ret (some (.bin .mod (.bin .add (.bin .fdiv (.bin .mul (.sub (.var ay) (.c (.str qt))) (.c (.int (.ofNat 5)))) (.c (.int (.ofNat 3)))) (.c (.int (.ofNat 1)))) (.var vG)))]
noncomputable def Cn:List T:=[
 .ret (some (.sub (.lst .fz [(.tup [(.c (.str iG)),(.c (.int (.ofNat 0))),(.c (.int (.ofNat 1))),(.c (.str Bi))]),(.tup [(.c (.str qc)),(.c (.int (.ofNat 0))),(.call aT [(.var ay),(.c (.int (.ofNat 9)))])])]) (.call aT [(.var ay),(.c (.int (.ofNat 2)))])))]
noncomputable def z9:List T:=[
 .ret (some (.sub (.lst .fz [(.c .none),(.call fu [(.var ay)])]) (.call aT [(.var ay),(.c (.int (.ofNat 2)))])))]
noncomputable def EK:List T:=[
 .asg (.x nq) (.comp (.sub (.lst .fz [(.tup [(.c (.str xO)),(.call fu [(.var ay)])]),(.tup [(.c (.str iZ)),(.tup [(.c (.str iG)),(.c (.int (.ofNat 0))),(.c (.int (.ofNat 0))),(.c (.str SQ))])])]) (.call aT [(.var ay),(.c (.int (.ofNat 2)))])) df (.su (.call aT [(.var ay),(.c (.int (.ofNat 3)))])) none [ay]),
 .ret (some (.tup [(.c (.str cu)),(.var ba),(.call fu [(.var ay)]),(.bin .add (.c (.str WW)) (.str (.call aT [(.var ay),(.c (.int (.ofNat 2)))]))),(.call kZ [(.var ay)]),(.var nq)]))]
noncomputable def Aa:List T:=[
 .ret (some (.tup [(.c (.str bw)),(.var ba),(.bin .add (.c (.str WW)) (.str (.call aT [(.var ay),(.c (.int (.ofNat 2)))]))),(.call kZ [(.var ay)]),(.DT (.lst .fz [(.c (.str s_p))]) none (some (.call aT [(.var ay),(.c (.int (.ofNat 2)))]))),(.call dO [(.var ay),(.bin .sub (.var dX) (.c (.int (.ofNat 1)))),(.c (.bool true))])]))]
noncomputable def Co:List T:=[
 .ret (some (.sub (.lst .fz [(.c .none),(.tup [(.c (.str qc)),(.c (.int (.ofNat 0))),(.c (.int (.ofNat 0)))]),(.tup [(.c (.str qc)),(.c (.int (.ofNat 0))),(.c (.int (.ofNat 1)))])]) (.call aT [(.var ay),(.c (.int (.ofNat 3)))])))]
noncomputable def Ab:List T:=[
 .fM (.cmp .eq (.call aT [(.var ay),(.c (.int (.ofNat 3)))]) (.c (.int (.ofNat 0)))) [.asg (.x s_call) (.tup [(.c .none),(.c (.str s_call)),(.call qz [(.var ay),(.var ba)]),(.call dO [(.var ay),(.bin .sub (.var dX) (.c (.int (.ofNat 1)))),(.var bg)])]),.fM (.cmp .eq (.call aT [(.var ay),(.c (.int (.ofNat 2)))]) (.c (.int (.ofNat 0)))) [.ret (some (.tup [(.c (.str bB)),(.var ba),(.lst .fz [(.var s_call)]),(.call dO [(.var ay),(.bin .sub (.var dX) (.c (.int (.ofNat 1)))),(.var bg)])]))] [],.asg (.x jP) (.tup [(.c .none),(.c (.str bE)),(.tup [(.c (.str bE)),(.var ba),(.call fu [(.var ay)]),(.cmp .eq (.call aT [(.var ay),(.c (.int (.ofNat 2)))]) (.c (.int (.ofNat 1))))]),(.call dO [(.var ay),(.c (.int (.ofNat 0))),(.var bg)])]),.ret (some (.tup [(.c (.str bB)),(.var ba),(.lst .fz [(.var s_call),(.var jP)]),(.c .none)]))] [],
 .asg (.x cf) (.lst .Be []),
 .gQ [df] (.su (.bin .add (.c (.int (.ofNat 1))) (.call aT [(.var ay),(.c (.int (.ofNat 3)))]))) [.asg (.x cJ) (.sub (.lst .fz [(.c (.str bw)),(.c (.str bw)),(.c (.str bE)),(.c (.str kj))]) (.call aT [(.var ay),(.c (.int (.ofNat 4)))])),.asg (.x bI) (.c .none),.fM (.cmp .eq (.var cJ) (.c (.str bw))) [.asg (.x bI) (.call k5 [(.var ay),(.var ba),(.var dX)])] [.fM (.cmp .eq (.var cJ) (.c (.str bE))) [.asg (.x bI) (.tup [(.c (.str bE)),(.var ba),(.call fu [(.var ay)]),(.cmp .eq (.call aT [(.var ay),(.c (.int (.ofNat 2)))]) (.c (.int (.ofNat 1))))])] []],.expr (.append (.var cf) (.tup [(.call lS [(.var ay)]),(.var cJ),(.var bI),(.call dO [(.var ay),(.c (.int (.ofNat 0))),(.var bg)])]))],
 .ret (some (.tup [(.c (.str bB)),(.var ba),(.var cf),(.sub (.lst .fz [(.c .none),(.call dO [(.var ay),(.c (.int (.ofNat 0))),(.var bg)])]) (.call aT [(.var ay),(.c (.int (.ofNat 2)))]))]))]
noncomputable def EL:List T:=[
 .asg (.x cf) (.lst .Be []),
 .gQ [df] (.su (.ite (.cx (.cmp .gt (.var dX) (.c (.int (.ofNat 0)))) (.cmp .gt (.sub (.var ay) (.c (.str eN))) (.c (.int (.ofNat 0))))) (.call aT [(.var ay),(.c (.int (.ofNat 3)))]) (.c (.int (.ofNat 1))))) [.asg (.sub (.var ay) (.c (.str eN))) (.bin .sub (.sub (.var ay) (.c (.str eN))) (.c (.int (.ofNat 1)))),.asg (.sub (.var ay) (.c (.str ba))) (.bin .add (.sub (.var ay) (.c (.str ba))) (.c (.int (.ofNat 1)))),.expr (.append (.var cf) (.call gF [(.var ay),(.sub (.var ay) (.c (.str ba))),(.var dX),(.var bg)]))],
 .ret (some (.var cf))]
noncomputable def HO:List T:=[
 .asg (.x iu) (.ite (.cx (.cmp .gt (.var dX) (.c (.int (.ofNat 0)))) (.cmp .gt (.sub (.var ay) (.c (.str eN))) (.c (.int (.ofNat 0))))) (.call aT [(.var ay),(.c (.int (.ofNat 9)))]) (.c (.int (.ofNat 6)))),
 .fM (.cmp .lt (.var iu) (.c (.int (.ofNat 2)))) [.ret (some (.call qz [(.var ay),(.var ba)]))] [],
 .fM (.cmp .eq (.var iu) (.c (.int (.ofNat 2)))) [.ret (some (.call k5 [(.var ay),(.var ba),(.var dX)]))] [],
 .fM (.cmp .isin (.var iu) (.tup [(.c (.int (.ofNat 3))),(.c (.int (.ofNat 4)))])) [.ret (some (.call jl [(.var ay),(.var ba),(.var dX),(.var bg)]))] [],
 .fM (.cmp .eq (.var iu) (.c (.int (.ofNat 5)))) [.ret (some (.tup [(.c (.str gp)),(.var ba),(.c (.str aI)),(.lst .fz []),(.call dO [(.var ay),(.bin .sub (.var dX) (.c (.int (.ofNat 1)))),(.var bg)]),(.lst .fz [])]))] [],
 .asg (.x iu) (.call aT [(.var ay),(.c (.int (.ofNat 5)))]),
 .fM (.cmp .eq (.var iu) (.c (.int (.ofNat 0)))) [.ret (some (.tup [(.c (.str bE)),(.var ba),(.call fu [(.var ay)]),(.cmp .eq (.call aT [(.var ay),(.c (.int (.ofNat 2)))]) (.c (.int (.ofNat 1))))]))] [],
 .fM (.cmp .eq (.var iu) (.c (.int (.ofNat 1)))) [.ret (some (.tup [(.c (.str d6)),(.var ba),(.comp (.call fu [(.var ay)]) df (.su (.bin .add (.c (.int (.ofNat 1))) (.call aT [(.var ay),(.c (.int (.ofNat 2)))]))) none [ay])]))] [],
 .fM (.cx (.cmp .eq (.var iu) (.c (.int (.ofNat 2)))) (.var bg)) [.ret (some (.tup [(.c (.str cz)),(.var ba),(.sub (.lst .fz [(.c .none),(.tup [(.c (.str iG)),(.c (.int (.ofNat 0))),(.c (.int (.ofNat 0))),(.c (.str Bi))])]) (.call aT [(.var ay),(.c (.int (.ofNat 2)))])),(.c (.str qu)),(.call kZ [(.var ay)]),(.cmp .eq (.call aT [(.var ay),(.c (.int (.ofNat 2)))]) (.c (.int (.ofNat 1))))]))] [],
 .fM (.cx (.cmp .eq (.var iu) (.c (.int (.ofNat 3)))) (.var bg)) [.ret (some (.tup [(.c (.str mG)),(.var ba),(.c .none)]))] [],
 .ret (some (.tup [(.c (.str qq)),(.var ba)]))]
noncomputable def EM:List T:=[
 .expr (.append (.sub (.var aM) (.c (.str qw))) (.var vH)),
 .ret (some (.var vH))]
noncomputable def Cp:List T:=[
 .asg (.sub (.var aM) (.c (.str ro))) (.bin .add (.sub (.var aM) (.c (.str ro))) (.c (.int (.ofNat 1)))),
 .ret (some (.bin .mod (.bin .fdiv (.sub (.var aM) (.c (.str hI))) (.bin .pow (.c (.int (.ofNat 3))) (.bin .mod (.sub (.var aM) (.c (.str ro))) (.c (.int (.ofNat 12)))))) (.var vG)))]
noncomputable def HP:List T:=[
 .asg (.x bH) (.sub (.var s_row) (.c (.int (.ofNat 0)))),
 .fM (.cmp .eq (.var bH) (.c (.str jN))) [.ret (some (.sub (.var s_row) (.c (.int (.ofNat 1)))))] [],
 .fM (.cmp .isin (.var bH) (.tup [(.c (.str j4)),(.c (.str iG)),(.c (.str ny)),(.c (.str qs))])) [.expr (.append (.var s_stack) (.ite (.cmp .eq (.var bH) (.c (.str qs))) (.lst (.base [15]) []) (.bin .add (.bin .add (.var bH) (.c (.str aQ))) (.str (.DT (.var s_row) (some (.c (.int (.ofNat 1)))) none))))),.ret (some (.c .none))] [],
 .fM (.cmp .eq (.var bH) (.c (.str mJ))) [.ret (some (.ite (.cmp .eq (.pop (.var s_stack)) (.c (.str oj))) (.sub (.var s_row) (.c (.int (.ofNat 1)))) (.c .none)))] [],
 .fM (.cmp .isin (.var bH) (.tup [(.c (.str bN)),(.c (.str de)),(.c (.str eH))])) [.ret (some (.call oA [(.var aM),(.var s_row),(.var s_stack)]))] [],
 .fM (.cmp .eq (.var bH) (.c (.str bB))) [.asg (.x bT) (.gP (.pop (.var s_stack))),.expr (.call aU [(.var aM),(.bin .add (.bin .add (.bin .add (.c (.str eG)) (.str (.sub (.var s_row) (.c (.int (.ofNat 1)))))) (.c (.str aQ))) (.str (.var bT)))]),.fM (.Bf (.cmp .eq (.var bT) (.lst .fz [])) (.cx (.sub (.var s_row) (.c (.int (.ofNat 1)))) (.cmp .eq (.call gj [(.var aM),(.c (.int (.ofNat 3)))]) (.c (.int (.ofNat 0)))))) [.ret (some (.ite (.sub (.var s_row) (.c (.int (.ofNat 1)))) (.sub (.var s_row) (.c (.int (.ofNat 3)))) (.neg 0)))] [],.ret (some (.sub (.sub (.var s_row) (.c (.int (.ofNat 2)))) (.sub (.sub (.var bT) (.call gj [(.var aM),(.len (.var bT))])) (.c (.int (.ofNat 0))))))] [],
 .asg (.x BJ) (.Hi .Be [da,fX,dc,bE,d6] [(.c (.int (.ofNat 1))),(.c (.int (.ofNat 1))),(.c (.int (.ofNat 1))),(.c (.int (.ofNat 1))),(.c (.int (.ofNat 1)))]),
 .asg (.x eD) (.get (.var BJ) (.var bH) (.c (.int (.ofNat 0)))),
 .fM (.Bf (.cmp .eq (.var bH) (.c (.str cu))) (.cmp .eq (.var bH) (.c (.str dK)))) [.asg (.x eD) (.bin .add (.bin .add (.bin .add (.c (.int (.ofNat 1))) (.sub (.var s_row) (.c (.int (.ofNat 2))))) (.sub (.var s_row) (.c (.int (.ofNat 3))))) (.ite (.cx (.cmp .eq (.var bH) (.c (.str dK))) (.cmp .ne (.sub (.var s_row) (.c (.int (.ofNat 4)))) (.c (.str sM)))) (.c (.int (.ofNat 1))) (.c (.int (.ofNat 0)))))] [.fM (.Bf (.cmp .eq (.var bH) (.c (.str bw))) (.cmp .eq (.var bH) (.c (.str cz)))) [.asg (.x eD) (.bin .add (.sub (.var s_row) (.c (.int (.ofNat 2)))) (.ite (.cmp .eq (.var bH) (.c (.str cz))) (.sub (.var s_row) (.c (.int (.ofNat 3)))) (.c (.int (.ofNat 0)))))] []],
 .asg (.x d5) (.Bn (.var s_stack) (.var eD)),
 .asg (.cut (.var s_stack) (.var eD)) (.lst .fz []),
 .asg (.x bM) (.ite (.cmp .yv (.var bH) (.tup [(.c (.str da)),(.c (.str q8)),(.c (.str dK))])) (.DT (.var s_row) (some (.c (.int (.ofNat 1)))) none) (.ite (.cmp .eq (.var bH) (.c (.str dK))) (.DT (.var s_row) (some (.c (.int (.ofNat 1)))) (some (.c (.int (.ofNat 5))))) (.tup []))),
 .asg (.x vH) (.call aU [(.var aM),(.bin .add (.bin .add (.bin .add (.bin .add (.var bH) (.c (.str aQ))) (.str (.var bM))) (.c (.str aQ))) (.str (.var d5)))]),
 .fM (.cmp .isin (.var bH) (.tup [(.c (.str da)),(.c (.str fX)),(.c (.str dc))])) [.expr (.append (.var s_stack) (.var vH))] [],
 .fM (.cx (.cmp .eq (.var bH) (.c (.str dK))) (.cmp .eq (.call gj [(.var aM),(.c (.int (.ofNat 2)))]) (.c (.int (.ofNat 0))))) [.ret (some (.sub (.var s_row) (.c (.int (.ofNat 5)))))] [],
 .ret (some (.c .none))]
noncomputable def v7:List T:=[
 .asg (.x zx) (.c (.str aI)),
 .fM (.Bf (.cmp .eq (.sub (.var s_row) (.c (.int (.ofNat 0)))) (.c (.str de))) (.cx (.cmp .eq (.sub (.var s_row) (.c (.int (.ofNat 0)))) (.c (.str bN))) (.cmp .eq (.sub (.var s_row) (.c (.int (.ofNat 3)))) (.c (.int (.ofNat 1)))))) [.asg (.x zx) (.pop (.var s_stack))] [],
 .expr (.append (.sub (.var s_stack) (.neg 0)) (.tup [(.sub (.var s_row) (.c (.int (.ofNat 1)))),(.bin .add (.bin .add (.bin .add (.bin .add (.sub (.var s_row) (.c (.int (.ofNat 0)))) (.c (.str aQ))) (.str (.DT (.var s_row) (some (.c (.int (.ofNat 2)))) none))) (.c (.str aQ))) (.var zx))])),
 .ret (some (.c .none))]
noncomputable def Ac:List T:=[
 .asg (.x s_stack) (.lst (.base [14]) []),
 .asg (.x aW) (.c (.int (.ofNat 0))),
 .Qg (.cmp .ne (.sub (.sub (.var bT) (.var aW)) (.c (.int (.ofNat 0)))) (.c (.str fg))) [.asg (.x nz) (.call sY [(.var aM),(.sub (.var bT) (.var aW)),(.var s_stack)]),.fM (.cmp .eq (.var nz) (.neg 0)) [.ret (some (.c (.str bz)))] [],.asg (.x aW) (.ite (.cmp .is (.var nz) (.c .none)) (.bin .add (.var aW) (.c (.int (.ofNat 1)))) (.var nz))],
 .ret (some (.len (.var s_stack)))]
noncomputable def EN:List T:=[
 .ret (some (.ite (.cmp .eq (.sub (.var bh) (.c (.int (.ofNat 0)))) (.c (.str qc))) (.bin .add (.c (.str iR)) (.str (.tup [(.sub (.var bh) (.c (.int (.ofNat 2))))]))) (.bin .add (.c (.str km)) (.str (.DT (.var bh) (some (.c (.int (.ofNat 2)))) none)))))]
noncomputable def yj:List T:=[
 .asg (.x cf) (.lst .Be []),
 .gQ [fW,bh] (.var rp) [.fM (.cmp .eq (.var fW) (.c (.str xO))) [.expr (.append (.var cf) (.call aU [(.var aM),(.bin .add (.c (.str dh)) (.str (.lst .fz [(.call cW [(.var bh)])])))]))] [.asg (.x da) (.call aU [(.var aM),(.bin .add (.c (.str dY)) (.str (.lst .fz [(.bin .add (.c (.str nA)) (.str (.DT (.var bh) (some (.c (.int (.ofNat 2)))) none)))])))]),.expr (.append (.var cf) (.call aU [(.var aM),(.bin .add (.c (.str dj)) (.str (.lst .fz [(.var da)])))]))]],
 .ret (some (.var cf))]
noncomputable def uw:List T:=[
 .asg (.x cI) (.ite (.cmp .is (.sub (.var aD) (.c (.int (.ofNat 4)))) (.c .none)) (.lst .fz []) (.lst .fz [(.call cW [(.sub (.var aD) (.c (.int (.ofNat 4))))])])),
 .asg (.x d5) (.bin .add (.bin .add (.bin .add (.var Gq) (.lst .fz [(.call cW [(.sub (.var aD) (.c (.int (.ofNat 2))))])])) (.var cI)) (.call iI [(.var aM),(.sub (.var aD) (.c (.int (.ofNat 5))))])),
 .asg (.x bM) (.bin .add (.tup [(.sub (.var aD) (.c (.int (.ofNat 3)))),(.len (.var cI)),(.len (.sub (.var aD) (.c (.int (.ofNat 5)))))]) (.var rh)),
 .expr (.call aU [(.var aM),(.bin .add (.bin .add (.bin .add (.ite (.cmp .eq (.var rh) (.tup [])) (.c (.str fY)) (.c (.str hY))) (.str (.var bM))) (.c (.str aQ))) (.str (.var d5)))])]
noncomputable def rG:List T:=[
 .asg (.tup [bH,ba,aC,dq]) (.var aD),
 .expr (.call aU [(.var aM),(.c (.str dz))]),
 .fM (.cmp .eq (.sub (.sub (.var aC) (.c (.int (.ofNat 0)))) (.c (.int (.ofNat 1)))) (.c (.str s_call))) [.asg (.x jP) (.ite (.cmp .is (.var dq) (.c .none)) (.sub (.var aC) (.c (.int (.ofNat 1)))) (.c .none)),.asg (.x rh) (.ite (.cmp .is (.var jP) (.c .none)) (.tup [(.c (.str sM))]) (.tup [(.ite (.sub (.sub (.var jP) (.c (.int (.ofNat 2)))) (.c (.int (.ofNat 3)))) (.c (.str zw)) (.c (.str bE)))])),.expr (.call kG [(.var aM),(.sub (.sub (.var aC) (.c (.int (.ofNat 0)))) (.c (.int (.ofNat 2)))),(.ite (.cmp .is (.var jP) (.c .none)) (.lst .fz []) (.lst .fz [(.call cW [(.sub (.sub (.var jP) (.c (.int (.ofNat 2)))) (.c (.int (.ofNat 2))))])])),(.var rh)]),.fM (.cmp .eq (.call gj [(.var aM),(.c (.int (.ofNat 2)))]) (.c (.int (.ofNat 0)))) [.ret (some (.call gr [(.var aM),(.ite (.cmp .is (.var jP) (.c .none)) (.var dq) (.sub (.var jP) (.c (.int (.ofNat 3)))))]))] [],.ret (some (.call gr [(.var aM),(.sub (.sub (.var aC) (.c (.int (.ofNat 0)))) (.c (.int (.ofNat 3))))]))] [],
 .asg (.x bT) (.lst .Be []),
 .gQ [aW] (.su (.len (.var aC))) [.asg (.tup [fq,cJ,bI,bo]) (.sub (.var aC) (.var aW)),.fM (.cx (.cmp .nW (.var fq) (.c .none)) (.cmp .eq (.sub (.var fq) (.c (.int (.ofNat 2)))) (.c (.int (.ofNat 0))))) [.cont] [],.fM (.cmp .eq (.var cJ) (.c (.str bw))) [.asg (.x cI) (.ite (.cmp .is (.sub (.var bI) (.c (.int (.ofNat 3)))) (.c .none)) (.c (.str aI)) (.call cW [(.sub (.var bI) (.c (.int (.ofNat 3))))])),.expr (.append (.var bT) (.tup [(.var aW),(.bin .add (.bin .add (.bin .add (.c (.str gy)) (.str (.tup [(.sub (.var bI) (.c (.int (.ofNat 2)))),(.ite (.cmp .is (.sub (.var bI) (.c (.int (.ofNat 3)))) (.c .none)) (.c (.int (.ofNat 0))) (.c (.int (.ofNat 1))))]))) (.c (.str aQ))) (.var cI))]))] [.fM (.cmp .eq (.var cJ) (.c (.str bE))) [.expr (.append (.var bT) (.tup [(.var aW),(.bin .add (.bin .add (.bin .add (.c (.str ji)) (.str (.tup [(.sub (.var bI) (.c (.int (.ofNat 3))))]))) (.c (.str aQ))) (.call cW [(.sub (.var bI) (.c (.int (.ofNat 2))))]))]))] [.expr (.append (.var bT) (.tup [(.var aW),(.c (.str gH))]))]]],
 .expr (.call aU [(.var aM),(.bin .add (.bin .add (.bin .add (.c (.str eG)) (.str (.cmp .nW (.var dq) (.c .none)))) (.c (.str aQ))) (.str (.var bT)))]),
 .fM (.Bf (.cmp .eq (.var bT) (.lst .fz [])) (.cx (.cmp .nW (.var dq) (.c .none)) (.cmp .eq (.call gj [(.var aM),(.c (.int (.ofNat 3)))]) (.c (.int (.ofNat 0)))))) [.ret (some (.ite (.cmp .nW (.var dq) (.c .none)) (.call gr [(.var aM),(.var dq)]) (.c (.str bz))))] [],
 .asg (.tup [fq,cJ,bI,bo]) (.sub (.var aC) (.sub (.sub (.var bT) (.call gj [(.var aM),(.len (.var bT))])) (.c (.int (.ofNat 0))))),
 .fM (.cmp .eq (.var cJ) (.c (.str bw))) [.expr (.call aU [(.var aM),(.bin .add (.bin .add (.c (.str dm)) (.str (.tup [(.sub (.var bI) (.c (.int (.ofNat 4))))]))) (.c (.str dD)))]),.fM (.cmp .eq (.call gr [(.var aM),(.sub (.var bI) (.c (.int (.ofNat 5))))]) (.c (.str bz))) [.ret (some (.c (.str bz)))] [],.expr (.call aU [(.var aM),(.c (.str dZ))])] [],
 .ret (some (.call gr [(.var aM),(.var bo)]))]
noncomputable def EO:List T:=[
 .gQ [aD] (.var bo) [.expr (.call aU [(.var aM),(.bin .add (.bin .add (.c (.str hZ)) (.str (.tup [(.sub (.var aD) (.c (.int (.ofNat 1))))]))) (.c (.str dD)))]),.asg (.x iu) (.call lx [(.var aM),(.var aD)]),.fM (.cmp .nW (.var iu) (.c .none)) [.ret (some (.var iu))] []],
 .ret (some (.c .none))]
noncomputable def v8:List T:=[
 .asg (.x bH) (.sub (.var aD) (.c (.int (.ofNat 0)))),
 .fM (.cmp .eq (.var bH) (.c (.str cu))) [.expr (.call kG [(.var aM),(.var aD),(.lst .fz []),(.tup [])])] [.fM (.cmp .eq (.var bH) (.c (.str bw))) [.asg (.x cI) (.ite (.cmp .is (.sub (.var aD) (.c (.int (.ofNat 3)))) (.c .none)) (.lst .fz []) (.lst .fz [(.call cW [(.sub (.var aD) (.c (.int (.ofNat 3))))])])),.expr (.call aU [(.var aM),(.c (.str dz))]),.expr (.call aU [(.var aM),(.bin .add (.bin .add (.bin .add (.c (.str om)) (.str (.tup [(.sub (.var aD) (.c (.int (.ofNat 2)))),(.len (.var cI)),(.sub (.var aD) (.c (.int (.ofNat 4))))]))) (.c (.str aQ))) (.str (.var cI)))]),.fM (.cmp .eq (.call gr [(.var aM),(.sub (.var aD) (.c (.int (.ofNat 5))))]) (.c (.str bz))) [.ret (some (.c (.str bz)))] [],.expr (.call aU [(.var aM),(.c (.str dZ))])] [.fM (.cmp .eq (.var bH) (.c (.str bB))) [.ret (some (.call aV [(.var aM),(.var aD)]))] [.fM (.cmp .eq (.var bH) (.c (.str gp))) [.expr (.call aU [(.var aM),(.c (.str eQ))]),.expr (.call aU [(.var aM),(.c (.str fZ))]),.asg (.x iu) (.call gr [(.var aM),(.sub (.var aD) (.c (.int (.ofNat 4))))]),.fM (.cmp .ne (.var iu) (.c (.str bz))) [.expr (.call aU [(.var aM),(.c (.str gz))])] [],.ret (some (.var iu))] [.fM (.cmp .eq (.var bH) (.c (.str bE))) [.expr (.call aU [(.var aM),(.c (.str dz))]),.expr (.call aU [(.var aM),(.bin .add (.bin .add (.bin .add (.c (.str qx)) (.str (.tup [(.sub (.var aD) (.c (.int (.ofNat 3))))]))) (.c (.str aQ))) (.str (.lst .fz [(.call cW [(.sub (.var aD) (.c (.int (.ofNat 2))))])])))])] [.fM (.cmp .eq (.var bH) (.c (.str d6))) [.gQ [bh] (.sub (.var aD) (.c (.int (.ofNat 2)))) [.expr (.call aU [(.var aM),(.bin .add (.c (.str cv)) (.str (.lst .fz [(.call cW [(.var bh)])])))])]] [.fM (.cmp .eq (.var bH) (.c (.str cz))) [.asg (.x d5) (.comp (.call cW [(.var bh)]) bh (.tup [(.sub (.var aD) (.c (.int (.ofNat 2)))),(.sub (.var aD) (.c (.int (.ofNat 4))))]) (some (.cmp .nW (.var bh) (.c .none))) []),.asg (.x bM) (.tup [(.sub (.var aD) (.c (.int (.ofNat 3)))),(.ite (.cmp .is (.sub (.var aD) (.c (.int (.ofNat 4)))) (.c .none)) (.c (.int (.ofNat 0))) (.c (.int (.ofNat 1)))),(.ite (.cmp .is (.sub (.var aD) (.c (.int (.ofNat 2)))) (.c .none)) (.c (.int (.ofNat 0))) (.c (.int (.ofNat 1)))),(.sub (.var aD) (.c (.int (.ofNat 5))))]),.expr (.call aU [(.var aM),(.bin .add (.bin .add (.bin .add (.c (.str ia)) (.str (.var bM))) (.c (.str aQ))) (.str (.var d5)))]),.ret (some (.c (.str eN)))] [.fM (.cmp .eq (.var bH) (.c (.str mG))) [.ret (some (.c (.str eN)))] []]]]]]]],
 .ret (some (.c .none))]
noncomputable def Uy:List T:=[
 .asg (.x ay) (.Hi (.base [0]) [gT,qt,ba,eN] [(.DT (.var gT) none (some (.c (.int (.ofNat 70))))),(.neg 0),(.c (.int (.ofNat 0))),(.c (.int (.ofNat 12)))]),
 .asg (.x jO) (.new 2 1 [(.c (.str YA))]),
 .asg (.attr (.var jO) bo) (.call dO [(.var ay),(.c (.int (.ofNat 3))),(.c (.bool false))]),
 .asg (.x hI) (.call aT [(.var ay),(.c (.int (.ofNat 531441)))]),
 .asg (.x fp) (.call rB []),
 .expr (.update (.var fp) (.call tP [])),
 .asg (.x eh) (.Hi (.base [3]) [pA,fV,fp,lu] [(.call tT []),(.call rD []),(.var fp),(.Hi (.base [19]) [] [])]),
 .asg (.x Ee) (.call rA [(.var eh),(.var jO),(.c (.str fg))]),
 .asg (.x nB) (.comp (.Hi (.base [10,11]) [qw,ro,hI] [(.lst (.base [12,13]) []),(.c (.int (.ofNat 0))),(.var hI)]) df (.su (.c (.int (.ofNat 2)))) none [hI]),
 .asg (.x qw) (.call gq [(.sub (.var nB) (.c (.int (.ofNat 0)))),(.attr (.var Ee) bT)]),
 .expr (.call aU [(.sub (.var nB) (.c (.int (.ofNat 1)))),(.c (.str fZ))]),
 .asg (.x Kb) (.call gr [(.sub (.var nB) (.c (.int (.ofNat 1)))),(.attr (.var jO) bo)]),
 .ret (some (.cx (.cmp .eq (.var qw) (.ite (.cmp .is (.var Kb) (.c .none)) (.c (.int (.ofNat 0))) (.var Kb))) (.cmp .eq (.sub (.sub (.var nB) (.c (.int (.ofNat 0)))) (.c (.str qw))) (.sub (.sub (.var nB) (.c (.int (.ofNat 1)))) (.c (.str qw))))))]
noncomputable def Uz:Nat->List Str
 |0=>[dy,bT,oi,lQ]
 |1=>[s_row]
 |2=>[s_row]
 |3=>[s_row]
 |4=>[s_row,fV]
 |5=>[s_row]
 |6=>[dy,eh]
 |7=>[dy,af,j3]
 |8=>[af,s_row]
 |9=>[af]
 |10=>[af,eY,aN]
 |11=>[af]
 |12=>[af,bh]
 |13=>[af,bh]
 |14=>[af,bh]
 |15=>[af,aD]
 |16=>[af,bo]
 |17=>[af,g8]
 |18=>[af,c9,aN]
 |19=>[af,g8,bo,cV,s_end,j2]
 |20=>[af,nq]
 |21=>[eh,jO,s_end]
 |22=>[af,aD]
 |29=>[af,aD]
 |31=>[af]
 |32=>[af,aD]
 |33=>[]
 |34=>[af,cI]
 |35=>[af,aD]
 |36=>[af,aD]
 |37=>[af,bo]
 |38=>[af,aD]
 |39=>[af,aD]
 |40=>[af,aW,iF]
 |41=>[af,aD]
 |42=>[af,aD]
 |43=>[af,aD]
 |44=>[af,aD]
 |45=>[af,aD]
 |46=>[]
 |47=>[dy,vE]
 |49=>[af,bh]
 |51=>[af,bh]
 |57=>[]
 |58=>[af,bh]
 |64=>[]
 |65=>[ay,vG]
 |66=>[ay]
 |67=>[ay]
 |68=>[ay,ba]
 |69=>[ay,ba,dX]
 |70=>[ay]
 |71=>[ay,ba,dX,bg]
 |72=>[ay,dX,bg]
 |73=>[ay,ba,dX,bg]
 |74=>[aM,vH]
 |75=>[aM,vG]
 |76=>[aM,s_row,s_stack]
 |77=>[aM,s_row,s_stack]
 |78=>[aM,bT]
 |79=>[bh]
 |80=>[aM,rp]
 |81=>[aM,aD,Gq,rh]
 |82=>[aM,aD]
 |83=>[aM,bo]
 |84=>[aM,aD]
 |85=>[gT]
 |_=>[af,af,af,af,af,af,af,af,af]
noncomputable def codeOf:Nat->List T
 |0=>Ca
 |1=>EE
 |2=>Cb
 |3=>EF
 |4=>zV
 |5=>HL
 |6=>EG
 |7=>ur
 |8=>Ux
 |9=>EH
 |10=>EI
 |11=>yb
 |12=>zW
 |13=>zX
 |14=>yc
 |15=>sZ
 |16=>rE
 |17=>pW
 |18=>yd
 |19=>vY
 |20=>vZ
 |21=>zY
 |22=>Cc
 |29=>zZ
 |31=>z4
 |32=>ye
 |33=>z5
 |34=>yf
 |35=>Cg
 |36=>s6
 |37=>uu
 |38=>yg
 |39=>v5
 |40=>qA
 |41=>s7
 |42=>yh
 |43=>yi
 |44=>z6
 |45=>z7
 |46=>Cj
 |47=>uv
 |49=>HM
 |51=>HN
 |57=>Ck
 |58=>Cm
 |64=>z8
 |65=>EJ
 |66=>Cn
 |67=>z9
 |68=>EK
 |69=>Aa
 |70=>Co
 |71=>Ab
 |72=>EL
 |73=>HO
 |74=>EM
 |75=>Cp
 |76=>HP
 |77=>v7
 |78=>Ac
 |79=>EN
 |80=>yj
 |81=>uw
 |82=>rG
 |83=>EO
 |84=>v8
 |85=>Uy
 |_=>[.no]
noncomputable def P:Defs:=⟨Uz,codeOf⟩
noncomputable def uP:List (Str×D):=[
 (j4,.tuple [.int (.ofNat 0),.int (.ofNat 1),.str iw]),
 (iG,.tuple [.int (.ofNat 0),.int (.ofNat 1),.str jj]),
 (Eb,.tuple [.int (.ofNat 0),.int (.ofNat 1),.str iw]),
 (vF,.tuple [.int (.ofNat 1),.int (.ofNat 1),.str iw]),
 (ri,.tuple [.int (.ofNat 1),.int (.ofNat 1),.str Ur]),
 (rj,.tuple [.int (.ofNat 3),.int (.ofNat 1),.str aI]),
 (rn,.tuple [.int (.ofNat 1),.int (.ofNat 1),.str aI]),
 (YB,.tuple [.int (.ofNat 0),.int (.ofNat 1),.str zy]),
 (xO,.tuple [.int (.ofNat 1),.int (.ofNat 1),.str jj]),
 (Ec,.tuple [.int (.ofNat 1),.int (.ofNat 1),.str iw]),
 (Ed,.tuple [.int (.ofNat 1),.int (.ofNat 1),.str jj]),
 (Kc,.tuple [.int (.ofNat 1),.int (.ofNat 1),.str i4]),
 (Ef,.tuple [.int (.ofNat 0),.int (.ofNat 1),.str i4]),
 (Eg,.tuple [.int (.ofNat 1),.int (.ofNat 1),.str aI]),
 (Ht,.tuple [.int (.ofNat 0),.int (.ofNat 1),.str iw]),
 (Ut,.tuple [.int (.ofNat 1),.int (.ofNat 1),.str aI]),
 (Nd,.tuple [.int (.ofNat 2),.int (.ofNat 1),.str aI]),
 (QC,.tuple [.int (.ofNat 1),.int (.ofNat 1),.str aI]),
 (Hu,.tuple [.int (.ofNat 0),.int (.ofNat 1),.str BK]),
 (Eh,.tuple [.int (.ofNat 0),.int (.ofNat 1),.str i4]),
 (Ei,.tuple [.int (.ofNat 1),.int (.ofNat 1),.str i4]),
 (Nf,.tuple [.int (.ofNat 0),.int (.ofNat 1),.str i4]),
 (BL,.tuple [.int (.ofNat 0),.int (.ofNat 1),.str i4]),
 (Ej,.tuple [.int (.ofNat 1),.int (.ofNat 1),.str QD]),
 (ny,.tuple [.int (.ofNat 0),.int (.ofNat 1),.str jj]),
 (BM,.tuple [.int (.ofNat 1),.int (.ofNat 1),.str iw]),
 (zz,.tuple [.int (.ofNat 1),.int (.ofNat 1),.str Ur]),
 (zA,.tuple [.int (.ofNat 3),.int (.ofNat 1),.str aI]),
 (zB,.tuple [.int (.ofNat 1),.int (.ofNat 1),.str aI]),
 (q0,.tuple [.int (.ofNat 1),.int (.ofNat 1),.str aI]),
 (da,.tuple [.int (.ofNat 1),.int (.ofNat 1),.str iw]),
 (Ka,.tuple [.int (.ofNat 1),.int (.ofNat 0),.str aI]),
 (fX,.tuple [.int (.ofNat 1),.int (.ofNat 1),.str aI]),
 (dc,.tuple [.int (.ofNat 1),.int (.ofNat 1),.str aI]),
 (jN,.tuple [.int (.ofNat 0),.int (.ofNat 0),.str MJ]),
 (mJ,.tuple [.int (.ofNat 1),.int (.ofNat 0),.str MJ]),
 (Kd,.tuple [.int (.ofNat 1),.int (.ofNat 0),.str MJ]),
 (Hv,.tuple [.int (.ofNat 1),.int (.ofNat 0),.str MJ]),
 (Ke,.tuple [.int (.ofNat 1),.int (.ofNat 0),.str MJ]),
 (nk,.tuple [.int (.ofNat 0),.int (.ofNat 0),.str iw]),
 (ba,.tuple [.int (.ofNat 0),.int (.ofNat 0),.str iw]),
 (Ng,.tuple [.int (.ofNat 2),.int (.ofNat 0),.str aI]),
 (BN,.tuple [.int (.ofNat 1),.int (.ofNat 0),.str Kg]),
 (Ek,.tuple [.int (.ofNat 2),.int (.ofNat 1),.str yE]),
 (Hw,.tuple [.int (.ofNat 1),.int (.ofNat 0),.str yE]),
 (Nh,.tuple [.int (.ofNat 0),.int (.ofNat 0),.str iw]),
 (q9,.tuple [.int (.ofNat 0),.int (.ofNat 0),.str iw]),
 (BI,.tuple [.int (.ofNat 1),.int (.ofNat 0),.str aI]),
 (gp,.tuple [.int (.ofNat 0),.int (.ofNat 0),.str iw]),
 (q8,.tuple [.int (.ofNat 0),.int (.ofNat 0),.str Kg]),
 (fN,.tuple [.int (.ofNat 0),.int (.ofNat 0),.str aI]),
 (QE,.tuple [.int (.ofNat 0),.int (.ofNat 0),.str aI]),
 (Hx,.tuple [.int (.ofNat 0),.int (.ofNat 0),.str aI]),
 (BO,.tuple [.int (.ofNat 0),.int (.ofNat 0),.str aI]),
 (fg,.tuple [.int (.ofNat 0),.int (.ofNat 0),.str aI]),
 (gi,.tuple [.int (.ofNat 0),.int (.ofNat 0),.str aI]),
 (vJ,.tuple [.int (.ofNat 0),.int (.ofNat 0),.str aI]),
 (vK,.tuple [.int (.ofNat 0),.int (.ofNat 0),.str aI]),
 (vL,.tuple [.int (.ofNat 1),.int (.ofNat 0),.str aI]),
 (vB,.tuple [.int (.ofNat 0),.int (.ofNat 1),.str iw]),
 (Uu,.tuple [.int (.ofNat 0),.int (.ofNat 1),.str jj]),
 (Ni,.tuple [.int (.ofNat 1),.int (.ofNat 0),.str Ur]),
 (BP,.tuple [.int (.ofNat 0),.int (.ofNat 0),.str i4]),
 (BQ,.tuple [.int (.ofNat 0),.int (.ofNat 1),.str iw]),
 (El,.tuple [.int (.ofNat 2),.int (.ofNat 0),.str iw]),
 (BR,.tuple [.int (.ofNat 1),.int (.ofNat 0),.str iw]),
 (zC,.tuple [.int (.ofNat 0),.int (.ofNat 0),.str jj]),
 (Hy,.tuple [.int (.ofNat 0),.int (.ofNat 0),.str iw]),
 (Kh,.tuple [.int (.ofNat 0),.int (.ofNat 0),.str iw]),
 (Hz,.tuple [.int (.ofNat 0),.int (.ofNat 0),.str jj]),
 (HA,.tuple [.int (.ofNat 0),.int (.ofNat 0),.str jj]),
 (Em,.tuple [.int (.ofNat 1),.int (.ofNat 0),.str iw]),
 (iE,.tuple [.int (.ofNat 0),.int (.ofNat 0),.str aI]),
 (cu,.tuple [.int (.ofNat 1),.int (.ofNat 0),.str Nj]),
 (dK,.tuple [.int (.ofNat 1),.int (.ofNat 0),.str jQ]),
 (bw,.tuple [.int (.ofNat 0),.int (.ofNat 0),.str HB]),
 (cO,.tuple [.int (.ofNat 0),.int (.ofNat 0),.str iw]),
 (qs,.tuple [.int (.ofNat 0),.int (.ofNat 1),.str aI]),
 (bN,.tuple [.int (.ofNat 1),.int (.ofNat 1),.str i4]),
 (de,.tuple [.int (.ofNat 2),.int (.ofNat 1),.str jj]),
 (eH,.tuple [.int (.ofNat 1),.int (.ofNat 1),.str iw]),
 (bB,.tuple [.int (.ofNat 1),.int (.ofNat 0),.str Nk]),
 (bE,.tuple [.int (.ofNat 1),.int (.ofNat 0),.str iw]),
 (d6,.tuple [.int (.ofNat 1),.int (.ofNat 0),.str aI]),
 (cz,.tuple [.int (.ofNat 0),.int (.ofNat 0),.str En])]
noncomputable def G:Own:=⟨uP,.tuple [.str jN,.str BN,.str q9,.str BO,.str fg,.str vJ,.str vK,.str vL,.str vB,.str bB],fun k=>match k with|0=>6|1=>7|2=>47|_=>0⟩
noncomputable def fnName:Nat->Str
 |1=>Eo
 |2=>BU
 |3=>Ep
 |4=>zD
 |5=>HE
 |8=>Uv
 |9=>Er
 |10=>Es
 |11=>xP
 |12=>zE
 |13=>zF
 |14=>xQ
 |15=>sS
 |16=>rq
 |17=>pV
 |18=>xR
 |19=>vM
 |20=>vN
 |21=>zG
 |22=>BV
 |23=>xS
 |24=>HF
 |25=>BW
 |26=>BX
 |27=>zH
 |28=>BY
 |29=>zI
 |30=>zJ
 |31=>zK
 |32=>xT
 |33=>zL
 |34=>xU
 |35=>BZ
 |36=>sT
 |37=>um
 |38=>xV
 |39=>vO
 |40=>qy
 |41=>sU
 |42=>xW
 |43=>xX
 |44=>zM
 |45=>zO
 |46=>B1
 |48=>xY
 |49=>HG
 |50=>Et
 |51=>HH
 |52=>Eu
 |53=>Ew
 |54=>B2
 |55=>B3
 |56=>B4
 |57=>B5
 |58=>B6
 |59=>zP
 |60=>xZ
 |61=>x8
 |62=>x9
 |63=>vP
 |64=>zQ
 |65=>Ey
 |66=>B7
 |67=>zR
 |68=>Ez
 |69=>zS
 |70=>B8
 |71=>zT
 |72=>EA
 |73=>HI
 |74=>EB
 |75=>B9
 |76=>HJ
 |77=>vQ
 |78=>zU
 |79=>EC
 |80=>ya
 |81=>uq
 |82=>rt
 |83=>ED
 |84=>vR
 |85=>Uw
 |_=>aI
noncomputable def clsName:Nat->Str
 |0=>Pf
 |1=>vT
 |2=>vU
 |3=>Ki
 |_=>aI
noncomputable def NN:Nm:=⟨fnName,clsName,ru,pB,[iY,sL,c9,lQ,g8,j2,sR,cV,aN,sQ,j3,uO,eY,dp,vE,nj,bT,oi,bo,eh]⟩
end jD
namespace jD
open PySem PySem.W PyProof.Rows PySem.Challenge
section
set_option maxRecDepth 100000
noncomputable def faL:List Nat:=[151,165,172,179,186,193,207,228,242,249,256,261,268,275,282,289,296,303,310,315,322,329,336,343,350,355,362,369,376,383,390,397,404,411,418,425,432,439,446,453,460,465,472,479,486,493,500,514,528,535,542,549,556,563,570,577,584,591,598,605,612,619,626,633,640,647,654,661,666,673,680,687,694,699,706,713,720,727,734,741,748,755,762,769,774,779]
noncomputable def ixL:List Nat:=[6,7,8,9,10,11,13,14,15,16,17,18,19,20,21,22,23,24,25,26,28,29,31,32,33,34,35,36,37,38,39,40,41,42,44,45,46,47,48,49,50,51,52,53,54,55,56,58,60,61,62,63,64,65,66,67,68,69,70,71,72,73,74,75,76,78,79,80,81,82,83,84,85,86,87,88,89,90,91,92,93,94,95,96,97,98]
noncomputable def fa(f:Nat):Nat:=faL.getD f 779
noncomputable def ca(k:Nat):Nat:=match k with|0=>210|1=>231|2=>517|_=>154
noncomputable def qv:Program:=view pw [98]
noncomputable def me:List Str:=(List.range 85).map fnName++[Pf,vT,vU,Ki,ru,pB, "AdaError", "BadCode"]
noncomputable def pick:Option Stmt->Option (Str×List Stmt×Scope×Arguments)
 |some (.FunctionDef n ar b _ _ _ sc _ _ _)=>some (n,b,sc,ar)
 |some (.ClassDef c _ _ b _ _ _ _ _ _ _)=>match b with
  |.FunctionDef n ar b _ _ _ sc _ _ _::_=>some (c++ "." ++n,b,sc,ar)
  |_=>none
 |_=>none
noncomputable def textOf(f:Nat):Option (Str×List Stmt×Scope×Arguments):=pick fR[ixL.getD f 98]?
noncomputable def Pg{α:Type}(d:Data)(K:FuncData->Option α):Option α:=by
 induction d using Data.casesOn with
 |func fd=>exact K fd
 |_=>exact none
theorem Gr{α:Type}{P:Prop}{x:α}{d:Data}{K:FuncData->Option α}(h:Pg d K=some x)(H:∀fd,d=.func fd->K fd=some x->P):P:=by
 revert h H
 induction d using Data.casesOn with
 |func fd=>exact fun h H=>H fd rfl h
 |_=>exact fun h _=>Bp h
noncomputable def QF{α:Type}(d:Value)(K:Addr->Option α):Option α:=by
 induction d using Value.casesOn with
 |ref a=>exact K a
 |_=>exact none
theorem Kj{α:Type}{P:Prop}{x:α}{d:Value}{K:Addr->Option α}(h:QF d K=some x)(H:∀a,d=.ref a->K a=some x->P):P:=by
 revert h H
 induction d using Value.casesOn with
 |ref a=>exact fun h H=>H a rfl h
 |_=>exact fun h _=>Bp h
noncomputable def Gs{α:Type}(d:Data)(K:Array Value->Option α):Option α:=by
 induction d using Data.casesOn with
 |fields vs=>exact K vs
 |_=>exact none
theorem HQ{α:Type}{P:Prop}{x:α}{d:Data}{K:Array Value->Option α}(h:Gs d K=some x)(H:∀vs,d=.fields vs->K vs=some x->P):P:=by
 revert h H
 induction d using Data.casesOn with
 |fields vs=>exact fun h H=>H vs rfl h
 |_=>exact fun h _=>Bp h
noncomputable def UA{α:Type}(l:List Value)(K:Str->Option α):Option α:=by
 induction l using List.casesOn with
 |nil=>exact none
 |cons k l=>
  induction l using List.casesOn with
  |nil=>exact none
  |cons v l=>
   induction v using Value.casesOn with
   |str q t=>exact K q
   |_=>exact none
theorem QG{α:Type}{P:Prop}{x:α}{l:List Value}{K:Str->Option α}(h:UA l K=some x)(H:∀k q t r,l=k::.str q t::r->K q=some x->P):P:=by
 revert h H
 induction l using List.casesOn with
 |nil=>exact fun h _=>Bp h
 |cons k l=>
  induction l using List.casesOn with
  |nil=>exact fun h _=>Bp h
  |cons v l=>
   induction v using Value.casesOn with
   |str q t=>exact fun h H=>H k q t l rfl h
   |_=>exact fun h _=>Bp h
theorem uQ{α β:Type}{P:Prop}{x:β}{o:Option α}{K:α->Option β}(h:o.bind K=some x)(H:∀a,o=some a->K a=some x->P):P:=by
 revert h H
 induction o using Option.casesOn with
 |none=>exact fun h _=>Bp h
 |some a=>exact fun h H=>H a rfl h
noncomputable def yF(g:Nat->Option Obj)(a:Nat):Option (FuncBody×Scope×List (Str×Addr)×Nat×Nat×Value×Arguments×Str×Str):=
 (g a).bind fun o=>Pg o.data fun fd=>QF fd.code fun c=>(g c).bind fun oc=>Gs oc.data fun vs=>UA vs.toList fun q=>some (fd.body,fd.scope,fd.closure,fd.globals,fd.builtins,fd.defaults,fd.params,fd.qualname,q)
set_option backward.match.sparseCases true in
noncomputable def yG(g:Nat->Option Obj)(a:Nat):Bool:=match g a with
 |some o=>(match o.data with|.dict es _=>es.all (fun e=>match e.key with|.str _ _=>true|_=>false)|_=>false)
 |none=>false
set_option backward.match.sparseCases true in
noncomputable def QH(g:Nat->Option Obj)(a:Nat)(name:Str):Option Value:=match g a with
 |some o=>(match o.data with|.dict es _=>nsFind es name|_=>none)
 |none=>none
noncomputable def QI(t:SharedT)(a:Nat):Option Obj:=match Nat.blt a t.n with
 |true=>match t.tree.get a with
  |some o=>alive o
  |none=>none
 |false=>none
noncomputable def Kk(f:Nat):Option (FuncBody×Scope×List (Str×Addr)×Nat×Nat×Value×Arguments×Str×Str):=match textOf f with
 |some (q,b,sc,ar)=>some (.stmts b,sc,[],mainGlobals,builtinsNs,.none,ar,q,q)
 |none=>none
noncomputable def K0(P:Params):Frag:=LT2 P++[(154,{cls:=ql,data:=.cls {name:= "Code",bases:=[.type "object"],mro:=[.ref 154,.type "object"],ns:=153,qualname:= "Code" },slots:=#[none,none,some (.str "Code" 673),some (.str "Code" 681),some (.builtin "object.__new__"),some (.bool true)]}),(153,di [en P "__module__" 680 (.str "adacore.ops" 234),en P "__firstlineno__" 684 (.int 12 683),en P "__init__" 694 (.ref 151),en P "__static_attributes__" 700 (.ref 152),en P "__dict__" 702 (.ref 155),en P "__weakref__" 704 (.ref 156),en P "__doc__" 705 .none] 4),(210,{cls:=ql,data:=.cls {name:= "Gen",bases:=[.type "object"],mro:=[.ref 210,.type "object"],ns:=209,qualname:= "Gen" },slots:=#[none,none,some (.str "Gen" 759),some (.str "Gen" 767),some (.builtin "object.__new__"),some (.bool true)]}),(209,di [en P "__module__" 766 (.str "adacore.gen" 757),en P "__firstlineno__" 770 (.int 62 769),en P "__init__" 778 (.ref 207),en P "__static_attributes__" 788 (.ref 208),en P "__dict__" 790 (.ref 211),en P "__weakref__" 792 (.ref 212),en P "__doc__" 793 .none] 4),(231,{cls:=ql,data:=.cls {name:= "OpenPart",bases:=[.type "object"],mro:=[.ref 231,.type "object"],ns:=230,qualname:= "OpenPart" },slots:=#[none,none,some (.str "OpenPart" 796),some (.str "OpenPart" 804),some (.builtin "object.__new__"),some (.bool true)]}),(230,di [en P "__module__" 803 (.str "adacore.gen" 757),en P "__firstlineno__" 807 (.int 74 806),en P "__init__" 816 (.ref 228),en P "__static_attributes__" 821 (.ref 229),en P "__dict__" 823 (.ref 232),en P "__weakref__" 825 (.ref 233),en P "__doc__" 826 .none] 4),(517,{cls:=ql,data:=.cls {name:= "TaskBody",bases:=[.type "object"],mro:=[.ref 517,.type "object"],ns:=516,qualname:= "TaskBody" },slots:=#[none,none,some (.str "TaskBody" 1215),some (.str "TaskBody" 1223),some (.builtin "object.__new__"),some (.bool true)]}),(516,di [en P "__module__" 1222 (.str "adacore.bodies" 1213),en P "__firstlineno__" 1226 (.int 350 1225),en P "__init__" 1234 (.ref 514),en P "__static_attributes__" 1241 (.ref 515),en P "__dict__" 1243 (.ref 518),en P "__weakref__" 1245 (.ref 519),en P "__doc__" 1246 .none] 4),(137,tu [.str "jump" 662,.str "choose" 663,.str "raise" 664,.str "endsub" 665,.str "endbody" 666,.str "endentry" 667,.str "enddecls" 668,.str "endvalue" 669,.str "refuse" 670,.str "select" 671]),(151,ME "Code.__init__" (nc fR[6]?) 3 (.str "adacore.ops" 234) (.ref 150) iO),(207,ME "Gen.__init__" (nc fR[13]?) 3 (.str "adacore.gen" 757) (.ref 206) iO),(228,ME "OpenPart.__init__" (nc fR[14]?) 3 (.str "adacore.gen" 757) (.ref 227) iO),(514,ME "TaskBody.__init__" (nc fR[58]?) 3 (.str "adacore.bodies" 1213) (.ref 513) iO)]
noncomputable def kA:List Nat:=(List.range 90).map (47+·)++[154,153,210,209,231,230,517,516,137,151,207,228,514]
noncomputable def Nl(g:Nat->Option Obj):=(yG g mainGlobals,(List.range 86).map (fun f=>yF g (fa f)),(List.range 86).map (fun f=>QH g mainGlobals (fnName f)),(List.range 4).map (fun k=>QH g mainGlobals (clsName k)),QH g mainGlobals ru,QH g mainGlobals pB,kA.map g,(g sysModules).isSome)
noncomputable def obs(s:Shared):=Nl s.heap.get?
noncomputable def val(w:World):Bool×List (Option (FuncBody×Scope×List (Str×Addr)×Nat×Nat×Value×Arguments×Str×Str))×List (Option Value)×List (Option Value)×Option Value×Option Value×List (Option Obj)×Bool:=
 (true,(List.range 86).map Kk,(List.range 86).map (fun f=>match(fnName f).cps.toList with|[]=>none|_=>some (.ref (fa f))),(List.range 4).map (fun k=>some (.ref (ca k))),some (.ref 47),some (.ref 137),(K0 w.params).map (fun p=>some p.2),true)
noncomputable def Kl:List Str:=importedModules pw.main.body
noncomputable def Ph(w:World)(s:Shared):=((staticsOk Kl (boot_heap w.params) s.heap&&namesBound pw s.heap&&gensDone s&&laidKept (boot_heap w.params) s.heap),openSeen qv me Kl (fun _=>true) true s)
noncomputable def good:=(true,openGood qv me)
end
section
set_option maxRecDepth 100000
theorem UB:∀(w:World) (os:OsState),segRunT treeTable pw w 11 uh 1 2500 (S3 w os) (piecesOf (fR.drop 46) zd kb p4 B0)=some (.next,S4 w os,kb,p3):=fun w os=>by kernel_rfl
end
section
set_option maxRecDepth 100000
theorem UC:∀(w:World) (os:OsState),(Ph w (S4 w os).abs,Nl (QI (S4 w os)))=(good,val w):=fun w os=>by kernel_rfl
end
section
set_option maxRecDepth 100000
theorem YC(w:World)(s:Shared)(c:Code)(p:Pos):topRun treeTable pw w 11 uh 3 s (restOf [] zd c p B0)=some s:=by
 obtain⟨h,g,d,t,os⟩:=s;rfl
theorem YD(w:World)(os:OsState):segRunT treeTable pw w 11 uh 1 2100 (S1 w os) (piecesOf ((fR.drop 4).take 1) zd kb p1 B0)=some (.next,S2 w os,kb,p2):=by
 have e:=World.withFollow_self w MU;cases hb:w.params.followText MU<;>rw[hb]at e
 ·have h:=TA w os;rw[e]at h;exact h
 ·have h:=TB w os;rw[e]at h;exact h
theorem QJ(w:World)(s:Shared):segRun treeTable pw w 11 uh 1 1 s (blockOf fR zd kb default B0)=some (.next,s,kb,default):=by
 obtain⟨h,g,d,t,os⟩:=s;rfl
set_option tactic.hygienic true in
theorem Km{t:SharedT}{a:Nat}{o:Obj}(h:QI t a=some o):t.abs.heap.get? a=some o:=by
 unfold QI at h;split at h
 ·rename_i e;split at h
  ·rename_i o' e';exact(abs_get (Nat.le_of_ble_eq_true e) e').trans h
  ·rcases h with _|_
 ·rcases h with _|_
theorem HR{β:Type}{f f':Nat->Option β}{h:Nat->Option β}:∀{l:List Nat},(∀a x,f a=some x->f' a=some x)->(∀a∈l,(h a).isSome=true)->l.map f=l.map h->l.map f'=l.map h:=by
 intro l0
 induction l0 with
 |nil=>
  intro _ _ _;exact rfl
 |cons a l ih=>
  intro q s e;obtain⟨e1,e2⟩:=List.cons.inj e;obtain⟨x,hx⟩:=Option.isSome_iff_exists.mp (s a List.mem_cons_self);show f' a::l.map f'=h a::l.map h;rw[hx,q _ _ (e1.trans hx),ih q (fun a m=>s a (List.mem_cons_of_mem _ m)) e2]
section
variable{g g':Nat->Option Obj}(k:∀a o,g a=some o->g' a=some o)
include k
set_option tactic.hygienic true in
theorem HS{a:Nat}(e:yG g a=true):yG g' a=true:=by
 unfold yG at e⊢;split at e
 ·rename_i o ho;refine az (k _ _ ho) ?_;exact e
 ·rcases e with _|_
set_option tactic.hygienic true in
theorem Nn{a:Nat}(e:yG g a=true)(x:Str):QH g' a x=QH g a x:=by
 unfold yG at e;unfold QH;split at e
 ·rename_i o ho;rw[k _ _ ho]
 ·rcases e with _|_
set_option tactic.hygienic true in
theorem HT{a:Nat}{x:FuncBody×Scope×List (Str×Addr)×Nat×Nat×Value×Arguments×Str×Str}(e:yF g a=some x):yF g' a=some x:=by
 refine uQ e fun o ho e=>Gr e fun fd YE e=>Kj e fun c hc e=>uQ e fun oc YF e=>?_;unfold yF;rw[k _ _ ho,Option.bind_some,YE];show QF fd.code _=_;rw[hc];show(g' c).bind _=_;rw[k _ _ YF];exact e
theorem map_mono{β:Type}{m:β->Obj}:∀{l:List Nat} {r:List β},l.map g=r.map (fun p=>some (m p))->l.map g'=r.map fun p=>some (m p):=by
 intro l0
 induction l0 with
 |nil=>
  intro l1;rcases l1 with _|⟨y,ys⟩
  ·intro _;exact rfl
  ·intros;first|contradiction|(exfalso;assumption)
 |cons a l ih=>
  intro l1;rcases l1 with _|⟨p,r⟩
  ·intros;first|contradiction|(exfalso;assumption)
  ·intro e;obtain⟨e1,e2⟩:=List.cons.inj e;show g' a::l.map g'=some (m p)::r.map _;rw[k _ _ e1,ih e2]
theorem Kn{w:World}(e:Nl g=val w):Nl g'=val w:=by
 refine bc fun bf=>?_;obtain⟨e1,e⟩:=Prod.mk.inj e;obtain⟨e2,e⟩:=Prod.mk.inj e;obtain⟨e3,e⟩:=Prod.mk.inj e;obtain⟨e4,e⟩:=Prod.mk.inj e;obtain⟨e5,e⟩:=Prod.mk.inj e;obtain⟨e6,e⟩:=Prod.mk.inj e;obtain⟨e7,e8⟩:=Prod.mk.inj e;refine bf ?_;have n:=Nn k e1;refine Prod.mk.injEq ..▸⟨HS k e1,Prod.mk.injEq ..▸⟨?_,Prod.mk.injEq ..▸⟨?_,Prod.mk.injEq ..▸⟨?_,Prod.mk.injEq ..▸⟨(n _).trans e5,Prod.mk.injEq ..▸⟨(n _).trans e6,Prod.mk.injEq ..▸⟨map_mono k e7,?_⟩⟩⟩⟩⟩⟩⟩
 ·exact HR (f:=fun f=>yF g (fa f)) (h:=Kk) (fun a x=>HT k) (by decide+kernel) e2
 ·exact(List.map_congr_left fun f _=>n _).trans e3
 ·exact(List.map_congr_left fun f _=>n _).trans e4
 ·obtain⟨o,ho⟩:=Option.isSome_iff_exists.mp e8;refine az (k _ _ ho) ?_;rfl
end
theorem YG(w:World)(os:OsState):∃bQ,topRun treeTable pw w 11 uh 8000 ⟨boot_heap w.params,#[],boot_drawn,boot_toks,os⟩ (topStub pw)=some bQ/\Ph w bQ=good/\obs bQ=val w:=by
 refine bc fun bf=>?_;obtain⟨e,e'⟩:=Prod.mk.inj (UC w os);refine bf ?_;refine⟨(S4 w os).abs,?_,e,Kn (fun _ _=>Km) e'⟩;have k4:=piece_app (segRun_of (UB w os)) (YC w (S4 w os).abs kb p3);have k3:=piece_app (segRun_of (TC w os)) k4;have k2:=piece_app (segRun_of (YD w os)) k3;have k1:=piece_app (segRun_of (XB w os)) k2;have e:fR.take 4++((fR.drop 4).take 1++((fR.drop 5).take 41++(fR.drop 46++[])))=fR:=by
  rw[List.append_nil,show fR.drop 46=(fR.drop 5).drop 41 by rw[List.drop_drop],List.take_append_drop,show fR.drop 5=(fR.drop 4).drop 1 by rw[List.drop_drop],List.take_append_drop,List.take_append_drop]
 rw[e]at k1;have k0:=go_top (XA w os) (piece_block (QJ w _) k1);exact topRun_mono 884 _ _ _ _ k0
end
section
set_option maxRecDepth 100000
theorem UD:LeftO pw qv me (fun _=>true) obs val 13000:=fun w=>by
 have b:=boot_open (p:=pw) (N:=13000) rfl rfl (fun _=>rfl) w;obtain⟨⟨h,gs,d,k,os⟩,e,e'⟩:=Option.map_eq_some_iff.mp b;obtain⟨rfl,rfl,rfl,rfl⟩:h=boot_heap w.params/\gs=Array.mk []/\d=boot_drawn/\k=boot_toks:=by simpa using e'
 obtain⟨bQ,r,l,lo⟩:=YG w os;obtain⟨l1,l2⟩:=Prod.mk.inj l;have r:=topRun_mono 5000 _ _ _ _ r;have z1:((boot_heap w.params).isNs mainGlobals&&(Array.mk ([]:List GenState)).size==0)=true:=by kernel_rfl
 have z2:(boot_heap w.params).objs.size=11:=by kernel_rfl
 have z3:(boot_heap w.params).nsMap mainGlobals "__annotations__" =uh:=by kernel_rfl
 have t:topFrom treeTable pw w 13000 ⟨boot_heap w.params,Array.mk [],boot_drawn,boot_toks,os⟩=some bQ:=by
  unfold topFrom;dsimp only;rw[z1,z2,z3];rw[show topRun treeTable pw w 11 uh 13000 ⟨boot_heap w.params,Array.mk [],boot_drawn,boot_toks,os⟩ (topStub pw)=some bQ from r];show(match(staticsOk Kl (boot_heap w.params) bQ.heap&&namesBound pw bQ.heap&&gensDone bQ&&laidKept (boot_heap w.params) bQ.heap)with|true=>_|false=>_)=_;rw[l1]
 show((fencedOpening treeTable pw w 13000).bind (topFrom treeTable pw w 13000)).map _=_;rw[e];show(topFrom treeTable pw w 13000 _).map _=_;rw[t];exact congrArg some (Prod.ext l2 lo)
end
end jD
namespace jD
open PySem PySem.W PySem.Calls PyProof.Rows
noncomputable abbrev NE:Value->Shared->Prop:=fun _ _=>False
theorem cQ{α:Type}{M:Model}{A:Around}{t:Sem α}{Q Q':α->Shared->Prop}{s:Shared}(h:wpAny M A t Q NE s)(k:∀v s',Q v s'->Q' v s'):wpAny M A t Q' NE s:=
 wpAny_mono h k fun _ _ x=>x
structure iJ(W:Wd)(N:Nm)(G:Own):Prop where
 Np:W.K.In W.h₀
 g:W.h₀.Ns mainGlobals W.mg
 b:W.h₀.Ns builtinsNs W.mb
 fn:∀f,fb (N.fn f) ni=false->W.mg (N.fn f)=some (.ref (W.fa f))
 QK:∀f,∃o fd,W.h₀.get? (W.fa f)=some o/\o.data=.func fd
 cls:∀k,fb (N.cls k) ni=false->W.mg (N.cls k)=some (.ref (W.ca k))
 tab:W.mg N.tab=some (.ref W.sa)
 tup:∃v,W.mg N.tup=some v/\dQ W.h₀ G.tup v
 bl:W.mg yx=none/\W.mb yx=some (.builtin "len")
 br:W.mg zk=none/\W.mb zk=some (.type "range")
 bs:W.mg JO=none/\W.mb JO=some (.type "str")
 YH:W.mg D4=none/\W.mb D4=some (.type "list")
 bt:W.mg zl=none/\W.mb zl=some (.type "tuple")
 nolimit:W.h₀.NoLimit
 sys:∃o,W.h₀.get? sysModules=some o
 nodigits:W.h₀.NoDigits
 YI:∀k x,uj x N.attrs=true->findIn W.K (.ref (W.ca k)) x=some none
 cga:∀k,findIn W.K (.ref (W.ca k)) "__getattribute__" =some (some (.builtin "object.__getattribute__"))
 csa:∀k,findIn W.K (.ref (W.ca k)) "__setattr__" =some (some (.builtin "object.__setattr__"))
 YJ:∀k,hasDictIn W.K (W.ca k)=true
 cpl:∀k,plainOver W.K (W.ca k)=true
 cmk:∀k,makesIn W.K (W.ca k)=true
 cin:∀k,findIn W.K (.ref (W.ca k)) "__init__" =some (some (.ref (W.fa (G.init k))))
 cfn:∀k,typeIn W.K (.ref (W.fa (G.init k)))=some (.type "function")
 ckp:∀k,keepIn W.K (.ref (W.ca k))=true
 Nq:∃f:Str->Option Value,Heap.MapOf (strKind W.prog W.w) W.h₀ W.sa f/\(W.sa==sysModules)=false/\∀x,match dF x G.tab with
  |some d=>∃v,f x=some v/\dQ W.h₀ d v
  |none=>f x=none
structure ix(d n:Nat)(A:Around):Prop where
 handled:A.handled=none
 depth:A.depth+2*d+n<800
 units:A.units+100*d+5*n<9000
 guards:A.guards=some []
theorem ix.le{d n m:Nat}{A:Around}(a:ix d n A)(h:m<=n):ix d m A:=⟨a.handled,by have:=a.depth;exact aZ h this,by have:=a.units;exact aZ (qk 5 h) this,a.guards⟩
theorem ix.cl{d n:Nat}{A:Around}(a:ix d n A){k:Nat}(h:k<=800):A.units+k<cLine:=by have:=a.units;show _<9900;exact aZ h this
section
variable{W:Wd}{N:Nm}{G:Own}
structure dP(W:Wd)(env:Env)(ê:ak)(g:Gh)(σ:St)(s:Shared)(g':Gh)(aF:St)(s':Shared):Prop where
 inv:Inv W g' aF s'.heap
 bJ:aS W g' env ê s'.heap
 post:gf g σ s.heap g' aF s'.heap
 gens:s'.gens=s.gens
 os:s'.os=s.os
theorem dP.trans{env:Env}{ê:ak}{g cD ve:Gh}{σ ab au:St}{s bQ pX:Shared}(a:dP W env ê g σ s cD ab bQ)(b:dP W env ê cD ab bQ ve au pX):dP W env ê g σ s ve au pX:=
 ⟨b.inv,b.bJ,a.post.trans b.post,b.gens.trans a.gens,b.os.trans a.os⟩
theorem dP.refl{env:Env}{ê:ak}{g:Gh}{σ:St}{s:Shared}(I:Inv W g σ s.heap)(C:aS W g env ê s.heap):dP W env ê g σ s g σ s:=⟨I,C,gf.refl _ _ _,rfl,rfl⟩
theorem dP.ki{env:Env}{ê:ak}{g:Gh}{σ:St}{s s':Shared}(I:Inv W g σ s.heap)(C:aS W g env ê s.heap)(k:∀b o,s.heap.get? b=some o->s'.heap.get? b=some o)(hg:s'.gens=s.gens)(ho:s'.os=s.os):dP W env ê g σ s g σ s':=
 have⟨I',P⟩:=I.ki k
 ⟨I',C.post P fun _=>rfl,P,hg,ho⟩
theorem dP.step{env:Env}{ê:ak}{g g':Gh}{σ aF:St}{s s':Shared}(C:aS W g env ê s.heap)(I':Inv W g' aF s'.heap)(P:gf g σ s.heap g' aF s'.heap)(hv:iP ê=true->aF.gen=σ.gen)(hg:s'.gens=s.gens)(ho:s'.os=s.os):dP W env ê g σ s g' aF s':=
 ⟨I',C.post P hv,P,hg,ho⟩
theorem dP.rep{env:Env}{ê:ak}{g g':Gh}{σ aF:St}{s s':Shared}(a:dP W env ê g σ s g' aF s'){m:ag}{v:Value}(r:bG W g m v)(hv:kz m=true->aF.gen=σ.gen):bG W g' m v:=r.mono a.post hv
noncomputable def aR(W:Wd)(env:Env)(ê:ak)(g:Gh)(σ:St)(s:Shared)(Q:KV):Value->Shared->Prop:=
 fun v s'=>∃m g' aF,Q m aF/\bG W g' m v/\dP W env ê g σ s g' aF s'
noncomputable def EP(W:Wd)(env:Env)(ê:ak)(g:Gh)(σ:St)(s:Shared)(Q:List ag->St->Prop):List Value->Shared->Prop:=
 fun vs s'=>∃ms g' aF,Q ms aF/\cc W g' ms vs/\jf ms=true/\dP W env ê g σ s g' aF s'
noncomputable def ux(W:Wd)(env:Env)(ê:ak)(g:Gh)(σ:St)(s:Shared)(Q:Bool->St->Prop):Bool->Shared->Prop:=
 fun b s'=>∃g' aF,Q b aF/\dP W env ê g σ s g' aF s'
noncomputable def UE(W:Wd)(env:Env)(ê:ak)(g:Gh)(σ:St)(s:Shared)(Q:St->Prop):Unit->Shared->Prop:=
 fun _ s'=>∃g' aF,Q aF/\dP W env ê g σ s g' aF s'
theorem aR.pre{env:Env}{ê:ak}{g cD:Gh}{σ ab:St}{s bQ:Shared}{Q:KV}(a:dP W env ê g σ s cD ab bQ){v:Value}{s':Shared}(h:aR W env ê cD ab bQ Q v s'):aR W env ê g σ s Q v s':=
 let⟨m,g',aF,q,r,n⟩:=h;⟨m,g',aF,q,r,a.trans n⟩
noncomputable def ek(W:Wd)(d:Nat)(f:Ev)(ck:Sc->E->Expr->Bool):Prop:=
 ∀(e:E) (x:Expr) (env:Env) (ê:ak) (g:Gh) (σ:St) (s:Shared) (Q:KV) (A:Around),ck env.scope.names e x=true->ix d 2 A->Inv W g σ s.heap->aS W g env ê s.heap->f e ê σ Q->
  wpAny (model W.prog W.w) A (eval x env) (aR W env ê g σ s Q) NE s
theorem aR.imp{env:Env}{ê:ak}{g:Gh}{σ:St}{s:Shared}{Q Q':KV}{v:Value}{s':Shared}(h:aR W env ê g σ s Q v s')(k:∀m aF,Q m aF->Q' m aF):aR W env ê g σ s Q' v s':=
 let⟨m,g',aF,q,r,n⟩:=h;⟨m,g',aF,k _ _ q,r,n⟩
theorem aR.go{M:Model}{A:Around}{env:Env}{ê:ak}{g:Gh}{σ:St}{s:Shared}{Q:KV}{R:Value->Shared->Prop}{t:Sem Value}(h:wpAny M A t (aR W env ê g σ s Q) NE s)
  (k:∀m v g' aF s',Q m aF->bG W g' m v->dP W env ê g σ s g' aF s'->R v s'):wpAny M A t R NE s:=
 cQ h fun v s' ⟨m,g',aF,q,r,n⟩=>k m v g' aF s' q r n
theorem aR.on{M:Model}{A:Around}{env:Env}{ê:ak}{g cD:Gh}{σ ab:St}{s bQ:Shared}{Q Q':KV}{t:Sem Value}(nx:dP W env ê g σ s cD ab bQ)(h:wpAny M A t (aR W env ê cD ab bQ Q) NE bQ)(k:∀m aF,Q m aF->Q' m aF):
 wpAny M A t (aR W env ê g σ s Q') NE bQ:=cQ h fun v s' o=>(o.imp k).pre nx
theorem f9{v:ag}{σ aF:St}{P:Prop}(h:xK v σ aF P):(kz v=true->aF.gen=σ.gen)/\P:=by
 unfold xK at h;split at h
 ·exact⟨fun _=>h.1,h.2⟩
 ·rename_i e;exact⟨(fun z=>by rw[e]at z;rcases z with _|_),h⟩
theorem mK{ê:ak}{σ aF:St}{P:Prop}(h:pR ê σ aF P):(iP ê=true->aF.gen=σ.gen)/\P:=by
 unfold pR at h;split at h
 ·exact⟨fun _=>h.1,h.2⟩
 ·rename_i e;exact⟨(fun z=>by rw[e]at z;rcases z with _|_),h⟩
theorem s8:∀{l:Sc} {x:Str},dG l x=l.lookup x
 |[],_=>rfl
 |(y,k)::l,x=>by
  unfold dG dF;refine az (List.lookup_cons) ?_;cases q:fb y x with
  |true=>
   have:=bj.mp q;subst this;simp
  |false=>
   have:(x==y)=false:=by
    rw[beq_eq_false_iff_ne];exact fun e=>iX.mp q e.symm
   refine az (this) ?_;exact s8 (l:=l)
theorem gc{env:Env}{sc:Sc}(h:env.scope.names=sc)(x:Str):env.kindOf x=dG sc x:=by
 unfold Env.kindOf;rw[h,s8]
theorem ER:nh=("__debug__" :Str):=by decide+kernel
theorem Cq:BG=("__classdict__" :Str):=by decide+kernel
theorem cX{y x:Str}(h:kC y x=true):y=x/\(y==("__debug__" :Str))=false/\fb x ni=false/\(y==("__classdict__" :Str))=false:=by
 unfold kC at h;simp only[Bool.and_eq_true,Bool.not_eq_true']at h;refine bc fun bf=>?_;obtain⟨⟨⟨a,b⟩,c⟩,d⟩:=h;refine bf ?_;have e:=bj.mp a;refine⟨e,?_,e▸c,?_⟩
 ·rw[beq_eq_false_iff_ne,<-ER];exact iX.mp b
 ·rw[beq_eq_false_iff_ne,<-Cq];exact iX.mp d
theorem ly {env:Env} {h:Heap} {x:Str} {v:Value} {A:Around} {s:Shared} {Q:Value->Shared->Prop} {M:Model} {p:Pos} (hk:env.scope.kind=.function) (hh:Yu env s.heap x v) (hd:(x==("__debug__" :Str))=false) (q:Q v s) (xF:(x==("__classdict__" :Str))=false\/env.kindOf x≠some .free):
  wpAny M A (eval (.Name x p) env) Q NE s:=by
 refine wpAny_Name ?_ hd;rcases hh with⟨k,m,n,e⟩|⟨k,c,e,ic⟩
 ·exact wpAny_loadName_local hk k n e q
 ·rcases k with k|k
  ·exact wpAny_loadName_cell hk k e ic q
  ·exact wpAny_loadName_free hk k e ic q (xF.elim id fun z=>absurd k z)
end
section
variable{W:Wd}{N:Nm}{G:Own}{A:Around}{s:Shared}{g:Gh}{σ:St}{env:Env}{ê:ak}{d n:Nat}
theorem ES{prog:Program}{w:World}{E:Value->Shared->Prop}{l b:Addr}{vs ws:List Value}{Q:Value->Shared->Prop}(hl:s.heap.IsList l vs.toArray)(hb:s.heap.IsList b ws.toArray)
  (h:Q (.ref s.heap.objs.size) {s with heap:=s.heap.push {cls:=.type "list",data:=.seq (vs++ws).toArray}}) (WX:vs.length+ws.length<=sizeLine):
  wpAny (model prog w) A (binaryOp .Add (.ref l) (.ref b)) Q E s:=by
 refine bc fun bf=>?_;obtain⟨⟨cls,dd,data,sl⟩,ho,hc,n,hd⟩:=id hl;obtain⟨⟨UG,Pj,data2,Pk⟩,xE,Pl,n2,hd2⟩:=id hb;refine bf ?_;simp only at hc hd Pl hd2;subst hc hd Pl hd2;have e:vs.toArray++ws.toArray=(vs++ws).toArray:=by simp
 refine concat_meets ⟨_,ho,rfl⟩ ⟨_,xE,rfl⟩ noFill_list_add seq_list_add PySem.F.slot_list_add PySem.F.entry_list_add (PySem.F.args_list_add_2 _ _) (list_addW l b vs.toArray ws.toArray n n2 dd Pj sl Pk (by simpa using WX)) ⟨ho,xE,?_⟩;refine az (e) ?_;exact h
theorem Cr{prog:Program}{w:World}{E:Value->Shared->Prop}{t b:Addr}{vs ws:List Value}{Q:Value->Shared->Prop}(ht:IsTup s.heap t vs.toArray)(hb:IsTup s.heap b ws.toArray)
  (h0:vs=[]->Q (.ref b) s) (h1:ws=[]->Q (.ref t) s)
  (h2:Q (.ref s.heap.objs.size) {s with heap:=s.heap.push {cls:=.type "tuple",data:=.seq (vs++ws).toArray}}) (WX:vs.length+ws.length<=sizeLine):
  wpAny (model prog w) A (binaryOp .Add (.ref t) (.ref b)) Q E s:=by
 refine bc fun bf=>?_;obtain⟨⟨cls,dd,data,sl⟩,ho,hc,n,hd⟩:=id ht;obtain⟨⟨UG,Pj,data2,Pk⟩,xE,Pl,n2,hd2⟩:=id hb;refine bf ?_;simp only at hc hd Pl hd2;subst hc hd Pl hd2;have e:vs.toArray++ws.toArray=(vs++ws).toArray:=by simp
 by_cases hv:vs=[]
 ·exact concat_meets ⟨_,ho,rfl⟩ ⟨_,xE,rfl⟩ noFill_tuple_add seq_tuple_add PySem.F.slot_tuple_add PySem.F.entry_tuple_add (PySem.F.args_tuple_add_2 _ _)
   (tuple_addW0 t b vs.toArray ws.toArray n n2 dd Pj sl Pk (by simp[hv])) ⟨ho,xE,h0 hv⟩
 ·by_cases hw:ws=[]
  ·exact concat_meets ⟨_,ho,rfl⟩ ⟨_,xE,rfl⟩ noFill_tuple_add seq_tuple_add PySem.F.slot_tuple_add PySem.F.entry_tuple_add (PySem.F.args_tuple_add_2 _ _)
    (tuple_addW1 t b vs.toArray ws.toArray n n2 dd Pj sl Pk (by simpa using hv) (by simp[hw])) ⟨ho,xE,h1 hw⟩
  ·refine concat_meets ⟨_,ho,rfl⟩ ⟨_,xE,rfl⟩ noFill_tuple_add seq_tuple_add PySem.F.slot_tuple_add PySem.F.entry_tuple_add (PySem.F.args_tuple_add_2 _ _)
    (tuple_addW2 t b vs.toArray ws.toArray n n2 dd Pj sl Pk (by simpa using hv) (by simpa using hw) (by rw[List.size_toArray,List.size_toArray];exact WX)) ⟨ho,xE,?_⟩
   refine az (e) ?_;exact h2
theorem dP.push{ob:Obj}(I:Inv W g σ s.heap)(C:aS W g env ê s.heap)(hf:ob.isFreed=false):
  dP W env ê g σ s {g with B:=jF g.B s.heap.objs.size ob} σ {s with heap:=s.heap.push ob}:=by
 have hn:s.heap.get? s.heap.objs.size=none:=by
  cases q:s.heap.get? s.heap.objs.size with
  |none=>rfl
  |some o=>exact absurd (Heap.lt_size q) (Nat.lt_irrefl _)
 have⟨I',P⟩:=I.MY (h':=s.heap.push ob) (fun b o e=>Heap.get?_push_of_some _ e) hn (Heap.get?_push_size _ hf) hf;exact⟨I',C.post P fun _=>rfl,P,rfl,rfl⟩
theorem cY(h:Heap):h.get? h.objs.size=none:=by
 cases q:h.get? h.objs.size with
 |none=>rfl
 |some o=>exact absurd (Heap.lt_size q) (Nat.lt_irrefl _)
theorem jn(I:Inv W g σ s.heap){a:Addr}(hn:s.heap.get? a=none):g.B.get? a=none:=by
 cases q:g.B.get? a with
 |none=>rfl
 |some o=>rw[I.gP _ _ q]at hn;rcases hn with _|_
theorem lz{h:Heap}{v:Value}{xs:List D}(r:dQ h (.list xs) v):∃a vs as,v=.ref a/\h.IsList a (List.toArray vs)/\ReadsAll h vs xs as:=by
 obtain⟨as,r⟩:=r;cases r with
 |list h1 h2 h3 h4=>exact⟨_,_,_,rfl,⟨_,h1,h2,_,h3⟩,by simpa using h4⟩
theorem gV{h:Heap}{v:Value}{xs:List D}(r:dQ h (.tuple xs) v):∃a vs as,v=.ref a/\IsTup h a (List.toArray vs)/\ReadsAll h vs xs as:=by
 obtain⟨as,r⟩:=r;cases r with
 |tuple h1 h2 h3 h4=>exact⟨_,_,_,rfl,⟨_,h1,h2,_,h3⟩,by simpa using h4⟩
theorem i6{h:Heap}{v:Value}{i:Int}(r:dQ h (.int i) v):∃t,v=.int i t:=by
 obtain⟨as,r⟩:=r;rcases r with _|_;exact⟨_,rfl⟩
theorem HU{h:Heap}{v:Value}{i:Str}(r:dQ h (.str i) v):∃t,v=.str i t:=by
 obtain⟨as,r⟩:=r;rcases r with _|_;exact⟨_,rfl⟩
theorem ET{h:Heap}{v:Value}{i:Bool}(r:dQ h (.bool i) v):v=.bool i:=by
 obtain⟨as,r⟩:=r;rcases r with _|_;rfl
theorem EU{h:Heap}{v:Value}(r:dQ h .none v):v=.none:=by
 obtain⟨as,r⟩:=r;rcases r with _|_;rfl
@[elab_as_elim] theorem aK{h:Heap}{motive:Value->Prop}{v:Value}{i:Int}(r:dQ h (.int i) v)(k:∀t,motive (.int i t)):motive v:=by
 obtain⟨t,rfl⟩:=i6 r;exact k t
@[elab_as_elim] theorem bx{h:Heap}{motive:Value->Prop}{v:Value}{i:Str}(r:dQ h (.str i) v)(k:∀t,motive (.str i t)):motive v:=by
 obtain⟨t,rfl⟩:=HU r;exact k t
@[elab_as_elim] theorem dR{h:Heap}{motive:Value->Prop}{v:Value}(r:dQ h .none v)(k:motive .none):motive v:=by
 cases EU r;exact k
@[elab_as_elim] theorem jq{h:Heap}{motive:Value->Prop}{v:Value}{b:Bool}(r:dQ h (.bool b) v)(k:motive (.bool b)):motive v:=by
 cases ET r;exact k
@[elab_as_elim] theorem cG{h:Heap}{motive:Value->Prop}{v:Value}{xs:List D}(r:dQ h (.list xs) v)(k:∀a vs as,h.IsList a (List.toArray vs)->ReadsAll h vs xs as->motive (.ref a)):motive v:=by
 obtain⟨a,vs,as,rfl,h1,h2⟩:=lz r;exact k a vs as h1 h2
@[elab_as_elim] theorem dv{h:Heap}{motive:Value->Prop}{v:Value}{xs:List D}(r:dQ h (.tuple xs) v)(k:∀a vs as,IsTup h a (List.toArray vs)->ReadsAll h vs xs as->motive (.ref a)):motive v:=by
 obtain⟨a,vs,as,rfl,h1,h2⟩:=gV r;exact k a vs as h1 h2
theorem ig{h:Heap}(i:Int)(t:Tok):dQ h (.int i) (.int i t):=⟨_,.int i t⟩
theorem nJ{h:Heap}(i:Str)(t:Tok):dQ h (.str i) (.str i t):=⟨_,.str i t⟩
theorem rH{h:Heap}(i:Bool):dQ h (.bool i) (.bool i):=⟨_,.bool i⟩
theorem mM{h:Heap}:dQ h .none .none:=⟨_,.none⟩
theorem readsAll_len{h:Heap}{vs:List Value}{xs:List D}{as:List Addr}(r:ReadsAll h vs xs as):vs.length=xs.length:=
 ll (motive:=fun vs xs=>vs.length=xs.length) rfl (fun _ _ _ _ _ _ _ _ ih=>congrArg (·+1) ih) r
theorem kH{h:Heap}{vs ws:List Value}{xs ys:List D}{as bs:List Addr}(q:ReadsAll h vs xs as)(r:ReadsAll h ws ys bs):∃cs,ReadsAll h (vs++ws) (xs++ys) cs:=
 ll (motive:=fun vs xs=>∃cs,ReadsAll h (vs++ws) (xs++ys) cs) ⟨_,r⟩ (fun _ _ _ _ _ _ a _ ⟨_,z⟩=>⟨_,.cons a z⟩) q
theorem bZ{h h':Heap}(k:∀b o,h.get? b=some o->h'.get? b=some o){a:Addr}{vs:Array Value}(r:h.IsList a vs):h'.IsList a vs:=
 let⟨o,ho,x⟩:=r;⟨o,k _ _ ho,x⟩
theorem cC{h h':Heap}(k:∀b o,h.get? b=some o->h'.get? b=some o){a:Addr}{vs:Array Value}(r:IsTup h a vs):IsTup h' a vs:=
 let⟨o,ho,x⟩:=r;⟨o,k _ _ ho,x⟩
theorem s9{a b:Nat}(h:a+b<=ah):a+b<=sizeLine:=by
 have:ah<=sizeLine:=by decide+kernel
 exact aZ h this
theorem QL{a:Int}(h:a.natAbs<=ah):Builtin.Int.intBits a<=64:=by
 have:a.natAbs<=1000000:=h;refine PySem.intBits_le_64 ?_ ?_
 ·omega
 ·omega
theorem outD{Q:KV}{s':Shared}{x:D}{v:Value}{g':Gh}(q:Q (.d x) σ)(r:dQ g'.B x v)(nx:dP W env ê g σ s g' σ s'):aR W env ê g σ s Q v s':=⟨.d x,g',σ,q,r,nx⟩
@[elab_as_elim] theorem QM{motive:Op->D->D->Prop}{op:Op}{x y:D}{K:D->Prop}(h:MV op x y K)(h1:∀a b,K (.int (a+b))->motive .add (.int a) (.int b))(h2:∀a b,a.length+b.length<=ah/\K (.str (a++b))->motive .add (.str a) (.str b))
  (h3:∀a b,a.length+b.length<=ah/\K (.tuple (a++b))->motive .add (.tuple a) (.tuple b)) (h4:∀a b,a.length+b.length<=ah/\K (.list (a++b))->motive .add (.list a) (.list b)) (h5:∀a b,K (.int (a-b))->motive .sub (.int a) (.int b))
  (h6:∀a b,(a.natAbs<=ah/\b.natAbs<=ah)/\K (.int (a*b))->motive .mul (.int a) (.int b)) (h7:∀a b,(0<b/\a.natAbs<=ah/\b.natAbs<=ah)/\K (.int (Int.fdiv a b))->motive .fdiv (.int a) (.int b))
  (h8:∀a b,0<b/\K (.int (Int.fmod a b))->motive .mod (.int a) (.int b)) (h9:∀a b,(a=3/\0<=b/\b<12)/\K (.int (a ^ b.toNat))->motive .pow (.int a) (.int b)):motive op x y:=by
 induction op using Op.casesOn with
 |add=>rcases x with _|_<;>first|exact nf h|(rcases y with _|_<;>first|exact nf h|exact h1 _ _ h|exact h2 _ _ h|exact h3 _ _ h|exact h4 _ _ h)
 |sub=>rcases x with _|_<;>first|exact nf h|(rcases y with _|_<;>first|exact nf h|exact h5 _ _ h)
 |mul=>rcases x with _|_<;>first|exact nf h|(rcases y with _|_<;>first|exact nf h|exact h6 _ _ h)
 |fdiv=>rcases x with _|_<;>first|exact nf h|(rcases y with _|_<;>first|exact nf h|exact h7 _ _ h)
 |mod=>rcases x with _|_<;>first|exact nf h|(rcases y with _|_<;>first|exact nf h|exact h8 _ _ h)
 |pow=>rcases x with _|_<;>first|exact nf h|(rcases y with _|_<;>first|exact nf h|exact h9 _ _ h)
theorem QN(I:Inv W g σ s.heap)(C:aS W g env ê s.heap){op:Op}{o:Operator}{x y:D}{v w:Value}{K:D->Prop}(ho:Hp op o=true)(rx:dQ g.B x v)(ry:dQ g.B y w)(h:MV op x y K):
  wpAny (model W.prog W.w) A (binaryOp o v w) (aR W env ê g σ s fun m aF=>aF=σ/\∃z,m=.d z/\K z) NE s:=by
 have same:∀tk,dP W env ê g σ s g σ {s with toks:=tk}:=fun tk=>dP.ki I C (fun _ _ e=>e) rfl rfl;cases Ge ho;clear ho;revert rx ry;refine QM h ?_ ?_ ?_ ?_ ?_ ?_ ?_ ?_ ?_
 ·intro a b h rx ry;refine aK rx fun t=>?_;refine aK ry fun u=>?_;exact add_int (outD ⟨rfl,_,rfl,h⟩ (ig _ _) (same _))
 ·intro a b h rx ry;refine bx rx fun t=>?_;refine bx ry fun u=>?_;exact add_str (fun t' tk=>outD ⟨rfl,_,rfl,h.2⟩ (nJ _ _) (same _)) (s9 h.1)
 ·intro a b h rx ry;obtain⟨a,vs,as,rfl,ha,r1⟩:=gV rx;obtain⟨b,ws,bs,rfl,hb,r2⟩:=gV ry;refine Cr (cC I.gP ha) (cC I.gP hb) (fun e=>?_) (fun e=>?_) ?_ (by rw[readsAll_len r1,readsAll_len r2];exact s9 h.1)
  ·subst e;rcases r1 with _|_;exact outD ⟨rfl,_,rfl,h.2⟩ ry (dP.refl I C)
  ·subst e;rcases r2 with _|_;exact outD ⟨rfl,_,rfl,h.2⟩ (by rw[List.append_nil];exact rx) (dP.refl I C)
  ·obtain⟨cs,r⟩:=kH r1 r2;refine outD ⟨rfl,_,rfl,h.2⟩ ?_ (dP.push I C rfl);exact⟨_,.tuple (fU rfl) rfl rfl (ReadsAll.keeps (fi rfl (jn I (cY _))) (by simpa using r))⟩
 ·intro a b h rx ry;refine cG rx fun a vs as ha r1=>?_;refine cG ry fun b ws bs hb r2=>?_;refine ES (bZ I.gP ha) (bZ I.gP hb) ?_ (by rw[readsAll_len r1,readsAll_len r2];exact s9 h.1);obtain⟨cs,r⟩:=kH r1 r2;refine outD ⟨rfl,_,rfl,h.2⟩ ?_ (dP.push I C rfl);exact⟨_,.list (fU rfl) rfl rfl (ReadsAll.keeps (fi rfl (jn I (cY _))) (by simpa using r))⟩
 ·intro a b h rx ry;refine aK rx fun t=>?_;refine aK ry fun u=>?_;exact sub_int (outD ⟨rfl,_,rfl,h⟩ (ig _ _) (same _))
 ·intro a b h rx ry;refine aK rx fun t=>?_;refine aK ry fun u=>?_;exact mul_int (outD ⟨rfl,_,rfl,h.2⟩ (ig _ _) (same _)) (IntMulOk.of_left (QL h.1.1))
 ·intro a b h rx ry;refine aK rx fun t=>?_;refine aK ry fun u=>?_;exact floordiv_int (by omega) (outD ⟨rfl,_,rfl,h.2⟩ (ig _ _) (same _)) (.inl (PyProof.noPylong_small (by have:_<=1000000:=h.1.2.2;exact ai this)))
 ·intro a b h rx ry;refine aK rx fun t=>?_;refine aK ry fun u=>?_;exact mod_int' (by omega) (outD ⟨rfl,_,rfl,h.2⟩ (ig _ _) (same _))
 ·intro a b h rx ry;refine aK rx fun t=>?_;refine aK ry fun u=>?_;obtain⟨⟨rfl,h0,h1⟩,hk⟩:=h;by_cases hb:b=0
  ·subst hb;exact AutoIntOps.pow_0 (by decide) (by decide) (outD ⟨rfl,_,rfl,hk⟩ (ig _ _) (same _))
  ·refine AutoIntOps.pow_4 (by omega) (by simpa using hb) (by decide) (by decide) ?_ (outD ⟨rfl,_,rfl,hk⟩ (ig _ _) (same _));have:b=1\/b=2\/b=3\/b=4\/b=5\/b=6\/b=7\/b=8\/b=9\/b=10\/b=11:=by omega
   rcases this with rfl|rfl|rfl|rfl|rfl|rfl|rfl|rfl|rfl|rfl|rfl<;>decide+kernel
end
section
variable{W:Wd}{N:Nm}{G:Own}{A:Around}{s:Shared}{g:Gh}{σ:St}{env:Env}{ê:ak}{d n:Nat}
theorem EV{h:Heap}{a:Addr}{vs:Array Value}(t:IsTup h a vs):h.IsTuple a vs:=t
theorem ij(I:Inv W g σ s.heap){i:Nat}{c:List ag}{r:List D}(h:σ.n4 i=some (.list c r)):∃p ws k,aq g.lb i=some (some p)/\g.O p.1=.b i/\s.heap.get? p.1=some (eA ws k)/\cc W g (items c r) ws:=by
 refine bc fun bf=>?_;obtain⟨p,e,ho,ws,k,hg,hr⟩:=I.cb i _ (iM.mp h);refine bf ?_;exact⟨p,ws,k,e,ho,hg,hr⟩
theorem fP{h:Heap}{a:Addr}{ws:List Value}{k:Nat}(e:h.get? a=some (eA ws k)):h.IsList a ws.toArray:=⟨_,e,rfl,k,rfl⟩
theorem d7:∀{l:List ag} {ws:List Value},cc W g l ws->ws.length=l.length:=by
 intro l0
 induction l0 with
 |nil=>
  intro l1;rcases l1 with _|⟨y0,nR⟩
  ·intro _;exact rfl
  ·intro z;exact z.elim
 |cons x0 Jq ih=>
  intro l1;rcases l1 with _|⟨y0,nR⟩
  ·intro z;exact z.elim
  ·rintro ⟨_,r⟩
   exact congrArg (·+1) (ih r)
theorem ik(c:List ag)(r:List D):(items c r).length=c.length+r.length:=by
 unfold items;rw[List.length_reverse,List.length_append,List.length_map]
theorem yH{B:Heap}{xs:List Str}{vs:List Value}{as:List Addr}(r:ReadsAll B vs (xs.map PyData.str) as)(j:Nat)(v:Value)(e:vs[j]?=some v):∃x t,xs[j]?=some x/\v=.str x t:=by
 have key:=ll (motive:=fun vs ds=>∀xs:List Str,ds=xs.map PyData.str->∀(j:Nat) (v:Value),vs[j]?=some v->∃x t,xs[j]?=some x/\v=.str x t) (fun _ _ _ _ e=>by simp at e) (fun v0 vs d ds _ _ a _ ih xs hx j v e=>by
  rcases xs with _|⟨x,xs⟩
  ·cases hx
  obtain⟨h1,h2⟩:=List.cons.inj hx;subst h1
  induction j using Nat.casesAuxOn with
  |zero=>simp at e;subst e;rcases a with _|_;exact⟨x,_,rfl,rfl⟩
  |succ j=>
   refine n6 (ih xs h2 j v (by simpa using e)) fun y t h1 h2=>?_;exact⟨y,t,by simpa using h1,h2⟩) r
 exact key xs rfl j v e
theorem Ad{xs ys:List Str}(hl:xs.length=ys.length):((List.range xs.length).all fun j=>(xs.getD j ⟨#[]⟩==ys.getD j ⟨#[]⟩))=decide (xs=ys):=by
 rw[Bool.eq_iff_iff,List.all_eq_true,decide_eq_true_iff];constructor
 ·intro h;apply List.ext_getElem hl;intro j h1 h2;have:=h j (List.mem_range.mpr h1);rw[beq_iff_eq]at this
  simpa [h1,h2]using this
 ·intro h j _;rw[h,beq_self_eq_true]
theorem HV{prog:Program}{w:World}{E:Value->Shared->Prop}{B:Heap}{l b:Addr}{vs ws:List Value}{xs ys:List Str}{as bs:List Addr}{Q:Value->Shared->Prop}(hl:s.heap.IsList l vs.toArray)(hb:s.heap.IsList b ws.toArray)
  (r1:ReadsAll B vs (xs.map PyData.str) as) (r2:ReadsAll B ws (ys.map PyData.str) bs) (hu:A.units<cLine) (h:Q (.bool (decide (xs=ys))) s):wpAny (model prog w) A (compareOp .Eq (.ref l) (.ref b)) Q E s:=by
 have l1:=readsAll_len r1;have l2:=readsAll_len r2;rw[List.length_map]at l1 l2;by_cases xG:xs.length=ys.length
 ·refine SeqAt.eq_listAt (e:=fun j=>(xs.getD j ⟨#[]⟩==ys.getD j ⟨#[]⟩)) hl hb (by simp[l1,l2,xG]) hu (fun j h1 h2=>?_) ?_
  ·have h1':j<vs.length:=by simpa using h1
   have yI:j<ws.length:=by simpa using h2
   refine n6 (yH r1 j _ (List.getElem?_eq_getElem h1')) fun x t e1 q1=>?_;refine n6 (yH r2 j _ (List.getElem?_eq_getElem yI)) fun y u e2 q2=>?_;have a1:vs.toArray[j]=.str x t:=by simpa using q1
   have a2:ws.toArray[j]=.str y u:=by simpa using q2
   refine az (a1) ?_;refine az (a2) ?_;have g1:xs.getD j ⟨#[]⟩=x:=by rw[List.getD_eq_getElem?_getD,e1];rfl
   have g2:ys.getD j ⟨#[]⟩=y:=by rw[List.getD_eq_getElem?_getD,e2];rfl
   refine az (g1) ?_;refine az (g2) ?_;exact(eqGives_str x y t u).at _ _
  ·have:vs.toArray.size=xs.length:=by simp[l1]
   rw[this,Ad xG];exact h
 ·refine SeqAt.eq_list_lengthsAt hl hb (by simp[l1,l2,xG]) hu ?_;have:decide (xs=ys)=false:=by
   rw[decide_eq_false_iff_not];intro e;exact xG (by rw[e])
  rw[this]at h;exact h
theorem Ko{prog:Program}{w:World}{E:Value->Shared->Prop}{l b:Addr}{vs:List Value}{Q:Value->Shared->Prop}(hl:s.heap.IsList l vs.toArray)(hb:s.heap.IsList b #[])(hu:A.units<cLine)(h:Q (.bool (isNil vs)) s):
  wpAny (model prog w) A (compareOp .Eq (.ref l) (.ref b)) Q E s:=by
 induction vs using List.casesOn with
 |nil=>exact SeqAt.eq_listAt (e:=fun _=>true) hl hb rfl hu (fun j h1 _=>absurd h1 (Nat.not_lt_zero j)) h
 |cons v vs=>exact SeqAt.eq_list_lengthsAt hl hb (by simp) hu h
theorem Cs{prog:Program}{w:World}{E:Value->Shared->Prop}{l b:Addr}{vs:List Value}{Q:Value->Shared->Prop}(hl:s.heap.IsList l vs.toArray)(hb:s.heap.IsList b #[])(hu:A.units<cLine)(h:Q (.bool (!isNil vs)) s):
  wpAny (model prog w) A (compareOp .NotEq (.ref l) (.ref b)) Q E s:=by
 refine bc fun bf=>?_;obtain⟨⟨cls,dd,data,sl⟩,ho,hc,n,hd⟩:=id hl;obtain⟨⟨UG,Pj,data2,Pk⟩,xE,Pl,n2,hd2⟩:=id hb;refine bf ?_;simp only at hc hd Pl hd2;subst hc hd Pl hd2
 induction vs using List.casesOn with
 |nil=>
  exact richCompare_meets_room (op:=.NotEq) ⟨_,ho,rfl⟩ ⟨_,xE,rfl⟩ PySem.F.slot_list_ne PySem.F.entry_list_ne (PySem.F.args_list_ne_2 _ _) (SeqAt.list_neAt l b #[] #[] n n2 dd Pj sl Pk rfl (fun _=>true))
   ⟨ho,xE,fun j h1 _=>absurd h1 (Nat.not_lt_zero j),show Value.bool _≠Value.notImplemented/\Q (.bool _) s from⟨(fun x=>nomatch x),h⟩⟩ hu
 |cons v vs=>
  exact richCompare_meets_room (op:=.NotEq) ⟨_,ho,rfl⟩ ⟨_,xE,rfl⟩ PySem.F.slot_list_ne PySem.F.entry_list_ne (PySem.F.args_list_ne_2 _ _) (SeqAt.list_ne_lengthsAt l b _ #[] n n2 dd Pj sl Pk (by simp))
   ⟨ho,xE,show Value.bool true≠Value.notImplemented/\Q (.bool true) s from⟨(fun x=>nomatch x),h⟩⟩ hu
theorem Gu(a b:Str):(a.cps.toList==b.cps.toList)=fb a b:=by
 rw[Bool.eq_iff_iff,beq_iff_eq,bj];constructor
 ·intro h;cases a;cases b;simp only[Str.mk.injEq];exact Array.toList_inj.mp h
 ·intro h;rw[h]
theorem pC{α β:Type}{l:List α}{m:List β}(h:l.length=m.length):isNil l=isNil m:=by
 rcases l with _|_<;>rcases m with _|_<;>first|rfl|rcases h with _|_
noncomputable def oB(x:Str):Value->Bool
 |.str y _=>fb x y
 |_=>false
theorem Ct{B:Heap}{x:Str}{l:List D}{vs:List Value}{as:List Addr}{b:Bool}(r:ReadsAll B vs l as)(e:ze x l=some b):vs.any (oB x)=b/\∀y∈vs,∃z t,y=.str z t:=
 ll (motive:=fun vs l=>∀b,ze x l=some b->vs.any (oB x)=b/\∀y∈vs,∃z t,y=.str z t) (fun b e=>by cases e;exact⟨rfl,fun y hy=>nomatch hy⟩) (fun v vs dd l _ _ r rs ih b e=>by
  induction dd using PyData.casesOn with
  |str y=>
   cases r with
   |str _ t=>
    unfold ze at e;cases q:fb x y with
    |true=>
     rw[q]at e;dsimp only at e;split at e
     ·rename_i w hw;rcases e with _|_
      obtain⟨h1,h2⟩:=ih _ hw;refine⟨by simp[List.any_cons,oB,q],fun z hz=>?_⟩;rcases List.mem_cons.mp hz with rfl|hz
      ·exact⟨_,_,rfl⟩
      ·exact h2 z hz
     ·cases e
    |false=>
     rw[q]at e;obtain⟨h1,h2⟩:=ih _ e;refine⟨by simp[List.any_cons,oB,q,h1],fun z hz=>?_⟩;rcases List.mem_cons.mp hz with rfl|hz
     ·exact⟨_,_,rfl⟩
     ·exact h2 z hz
  |_=>rcases e with _|_) r b e
noncomputable def v9(x:Int):Value->Bool
 |.int y _=>decide (x=y)
 |_=>false
theorem Kp{B:Heap}{x:Int}{l:List D}{vs:List Value}{as:List Addr}{b:Bool}(r:ReadsAll B vs l as)(e:Hl x l=some b):vs.any (v9 x)=b/\∀y∈vs,∃z t,y=.int z t:=
 ll (motive:=fun vs l=>∀b,Hl x l=some b->vs.any (v9 x)=b/\∀y∈vs,∃z t,y=.int z t) (fun b e=>by cases e;exact⟨rfl,fun y hy=>nomatch hy⟩) (fun v vs dd l _ _ r rs ih b e=>by
  induction dd using PyData.casesOn with
  |int y=>
   cases r with
   |int _ t=>
    unfold Hl at e;split at e
    ·rename_i w hw;cases e;obtain⟨h1,h2⟩:=ih _ hw;refine⟨by simp[List.any_cons,v9,h1],fun z hz=>?_⟩;rcases List.mem_cons.mp hz with rfl|hz
     ·exact⟨_,_,rfl⟩
     ·exact h2 z hz
    ·cases e
  |_=>cases e) r b e
theorem HW{prog:Program}{w:World}{E:Value->Shared->Prop}{B:Heap}{x:Str}{t:Tok}{c:Addr}{l:List D}{vs:List Value}{as:List Addr}{b:Bool}{Q:Value->Shared->Prop}(hc:s.heap.IsTuple c vs.toArray)(r:ReadsAll B vs l as)(e:ze x l=some b)(h:Q (.bool b) s):
  wpAny (model prog w) A (compareOp .In (.str x t) (.ref c)) Q E s:=by
 obtain⟨h1,h2⟩:=Ct r e;refine SeqAt.in_tupleAt (oB x) hc (fun y hy=>?_) (by rw[List.any_toArray,h1];exact h);refine Qa (h2 y (by simpa using hy)) fun z u jc=>?_;subst jc;have:oB x (.str z u)=(z==x):=by
  show fb x z=_;rw[Bool.eq_iff_iff,bj,beq_iff_eq];exact eq_comm
 rw[this];exact(eqGives_str z x u t).at _ _
theorem Ae{prog:Program}{w:World}{E:Value->Shared->Prop}{B:Heap}{x:Str}{t:Tok}{c:Addr}{l:List D}{vs:List Value}{as:List Addr}{b:Bool}{Q:Value->Shared->Prop}(hc:s.heap.IsTuple c vs.toArray)(r:ReadsAll B vs l as)(e:ze x l=some b)(h:Q (.bool (!b)) s):
  wpAny (model prog w) A (compareOp .NotIn (.str x t) (.ref c)) Q E s:=by
 obtain⟨h1,h2⟩:=Ct r e;refine SeqAt.notIn_tupleAt (oB x) hc (fun y hy=>?_) (by rw[List.any_toArray,h1];exact h);refine Qa (h2 y (by simpa using hy)) fun z u jc=>?_;subst jc;have:oB x (.str z u)=(z==x):=by
  show fb x z=_;rw[Bool.eq_iff_iff,bj,beq_iff_eq];exact eq_comm
 refine az (this) ?_;exact(eqGives_str z x u t).at _ _
theorem HX{prog:Program}{w:World}{E:Value->Shared->Prop}{B:Heap}{x:Int}{t:Tok}{c:Addr}{l:List D}{vs:List Value}{as:List Addr}{b:Bool}{Q:Value->Shared->Prop}(hc:s.heap.IsTuple c vs.toArray)(r:ReadsAll B vs l as)(e:Hl x l=some b)(h:Q (.bool b) s):
  wpAny (model prog w) A (compareOp .In (.int x t) (.ref c)) Q E s:=by
 obtain⟨h1,h2⟩:=Kp r e;refine SeqAt.in_tupleAt (v9 x) hc (fun y hy=>?_) (by rw[List.any_toArray,h1];exact h);refine Qa (h2 y (by simpa using hy)) fun z u jc=>?_;subst jc;have:v9 x (.int z u)=(z==x):=by
  show decide (x=z)=_;rw[Bool.eq_iff_iff,decide_eq_true_iff,beq_iff_eq];exact eq_comm
 refine az (this) ?_;exact(MeetsSeq.EqGives.int z x u t).at _ _
theorem pD{x:Str}:∀{l:List (Str×ag)} {gM:List (Str×Value)},gh W g l gM->match dF x l with
  |some m=>∃v,valueAt gM x=some v/\bG W g m v
  |none=>valueAt gM x=none
 |[],[],_=>rfl
 |p::l,q::gM,⟨e,r,rs⟩=>by
  have ih:=pD (x:=x) rs;unfold dF valueAt;refine az (List.find?_cons) ?_;refine az (e) ?_;cases z:fb p.1 x with
  |true=>
   have:=bj.mp z;simp only[this,decide_true];exact⟨q.2,rfl,r⟩
  |false=>
   have:=iX.mp z;simp only[this,decide_false];exact ih
 |[],_::_,z=>z.elim
 |_::_,[],z=>z.elim
theorem pE{α:Type}{x:Str}:∀{l:List (Str×α)},yw x l=(dF x l).isSome
 |[]=>rfl
 |p::l=>by
  unfold yw dF;cases fb p.1 x with
  |true=>rfl
  |false=>exact pE (l:=l)
theorem la(I:Inv W g σ s.heap){i:Nat}{l:List (Str×ag)}(h:σ.n4 i=some (.dict l)):∃p gM,aq g.lb i=some (some p)/\g.O p.1=.b i/\Heap.DictOf (strKind W.prog W.w) s.heap p.1 gM/\gh W g l gM:=by
 refine bc fun bf=>?_;obtain⟨p,e,ho,gM,hd,hr⟩:=I.cb i _ (iM.mp h);refine bf ?_;exact⟨p,gM,e,ho,hd,hr⟩
theorem tU(prog:Program)(w:World)(x:Str)(t:Tok):(strKind prog w).is x (.str x t)=true:=strKind_is prog w x t
theorem Af(H:iJ W N G)(I:Inv W g σ s.heap){a:Addr}{t:Tag}(h:g.O a=t)(ht:t≠.no):(a==sysModules)=false:=by
 rw[beq_eq_false_iff_ne];intro e;subst e;obtain⟨o,ho⟩:=H.sys;rw[I.lO _ _ (I.fT _ _ ho)]at h;exact ht h.symm
theorem oE{K:Type}[DecidableEq K]{prog:Program}{w:World}{knd:PySem.KeyKind prog w K}{h h':Heap}{a:Addr}{f:K->Option Value}(n:Heap.MapOf knd h a f)(k:∀b o,h.get? b=some o->h'.get? b=some o):Heap.MapOf knd h' a f:=
 let⟨o,es,ep,ho,r⟩:=n;⟨o,es,ep,k _ _ ho,r⟩
set_option tactic.hygienic true in
@[elab_as_elim] theorem UH{motive:ag->ag->Prop}{v w:ag}{σ:St}{K:Bool->Prop}(h:WS v w σ K)(h1:∀a b,K (fb a b)->motive (.d (.str a)) (.d (.str b)))(h2:∀a b,K (decide (a=b))->motive (.d (.int a)) (.d (.int b)))
  (h3:K true->motive (.d .none) (.d .none)) (h4:∀a,K false->motive (.d .none) (.d (.str a))) (h5:∀a,K false->motive (.d (.str a)) (.d .none)) (h6:∀a,K false->motive (.d .none) (.d (.int a))) (h7:∀a,K false->motive (.d (.int a)) (.d .none))
  (h8:∀a b,K false->motive (.d (.int a)) (.d (.str b))) (h9:∀a b,K false->motive (.d (.str a)) (.d (.int b))) (QO:∀a,K (isNil a)->motive (.d (.tuple a)) (.d (.tuple []))) (h11:∀a,K (isNil a)->motive (.d (.list a)) (.d (.list [])))
  (WY:∀i j,WS (.b i) (.b j) σ K->motive (.b i) (.b j)):motive v w:=by
 induction v using ag.casesOn with
 |d x=>
  induction w using ag.casesOn with
  |d y=>
   rcases x with _|_<;>first
   |exact nf h
   |(rcases y with _|_<;>first|exact nf h|exact h1 _ _ h|exact h2 _ _ h|exact h3 h|exact h4 _ h|exact h5 _ h|exact h6 _ h|exact h7 _ h|exact h8 _ _ h|exact h9 _ _ h|(rename_i l;rcases l with _|_<;>first|exact nf h|exact QO _ h|exact h11 _ h))
  |_=>rcases x with _|_<;>exact nf h
 |b i=>rcases w with _|_<;>first|exact nf h|exact WY _ _ h
 |_=>exact nf h
set_option tactic.hygienic true in
@[elab_as_elim] theorem UI{motive:ag->ag->Prop}{v w:ag}{σ:St}{K:Bool->Prop}(h:WT v w σ K)(h1:∀a b,K (!fb a b)->motive (.d (.str a)) (.d (.str b)))(h2:∀a,K true->motive (.d .none) (.d (.str a)))
  (h3:∀a b,K (!decide (a=b))->motive (.d (.int a)) (.d (.int b))) (h4:∀a,K (!isNil a)->motive (.d (.list a)) (.d (.list []))) (h5:∀i,WT (.b i) (.d (.list [])) σ K->motive (.b i) (.d (.list []))):motive v w:=by
 induction v using ag.casesOn with
 |d x=>
  induction w using ag.casesOn with
  |d y=>
   rcases x with _|_<;>first
   |exact nf h
   |(rcases y with _|_<;>first|exact nf h|exact h1 _ _ h|exact h2 _ h|exact h3 _ _ h|(rename_i l;rcases l with _|_<;>first|exact nf h|exact h4 _ h))
  |_=>rcases x with _|_<;>exact nf h
 |b i=>
  induction w using ag.casesOn with
  |d y=>rcases y with _|_<;>first|exact nf h|(rename_i l;rcases l with _|_<;>first|exact nf h|exact h5 _ h)
  |_=>exact nf h
 |_=>exact nf h
theorem Kq(H:iJ W N G)(a:ix d n A)(I:Inv W g σ s.heap)(C:aS W g env ê s.heap){op:CO}{o:CmpOp}{x y:ag}{v w:Value}{K:Bool->Prop}(ho:Qw op o=true)(rx:bG W g x v)(ry:bG W g y w)(h:MW G.tab op x y σ K):
  wpAny (model W.prog W.w) A (compareOp o v w) (aR W env ê g σ s fun m aF=>aF=σ/\∃b,m=.d (.bool b)/\K b) NE s:=by
 have same:∀tk,dP W env ê g σ s g σ {s with toks:=tk}:=fun tk=>dP.ki I C (fun _ _ e=>e) rfl rfl;have out:∀{b:Bool} {tk:Nat},K b->aR W env ê g σ s (fun m aF=>aF=σ/\∃b,m=.d (.bool b)/\K b) (.bool b) {s with toks:=tk}:=fun hk=>outD ⟨rfl,_,rfl,hk⟩ (rH _) (same _);have hu:A.units<cLine:=a.cl (k:=0) (by omega);cases M5 ho;clear ho
 induction op using CO.casesOn with
 |eq=>
  have h:WS x y σ K:=h;refine bc fun hn=>?_;revert rx ry;refine UH h ?_ ?_ ?_ ?_ ?_ ?_ ?_ ?_ ?_ ?_ ?_ ?_
  ·intro _ _ h rx ry;refine hn ?_;refine bx rx fun t=>?_;refine bx ry fun u=>?_;exact PySem.P.eq_str (by rw[Gu];exact out h)
  ·intro _ _ h rx ry;refine hn ?_;refine aK rx fun t=>?_;refine aK ry fun u=>?_;exact wpAny_eq_int (by rw[show(_==_)=decide (_=_)from rfl];exact out h)
  ·intro h rx ry;refine hn ?_;refine dR rx ?_;refine dR ry ?_;exact EqNone.eq_none_none (out h)
  ·intro _ h rx ry;refine hn ?_;refine dR rx ?_;refine bx ry fun u=>?_;exact EqNone.eq_none_str (out h)
  ·intro _ h rx ry;refine hn ?_;refine dR ry ?_;refine bx rx fun u=>?_;exact EqNone.eq_str_none (out h)
  ·intro _ h rx ry;refine hn ?_;refine dR rx ?_;refine aK ry fun u=>?_;exact EqNone.eq_none_int (out h)
  ·intro _ h rx ry;refine hn ?_;refine dR ry ?_;refine aK rx fun u=>?_;exact EqNone.eq_int_none (out h)
  ·intro _ _ h rx ry;refine hn ?_;refine aK rx fun t=>?_;refine bx ry fun u=>?_;exact EqMixed.eq_int_str (out h)
  ·intro _ _ h rx ry;refine hn ?_;refine bx rx fun t=>?_;refine aK ry fun u=>?_;exact EqMixed.eq_str_int (out h)
  ·intro _ h rx ry;refine hn ?_;refine dv rx fun p vs as hp r1=>?_;refine dv ry fun q ws bs hq r2=>?_;rcases r2 with _|_;refine SeqAt.eq_tupleAt (e:=fun _=>true) (cC I.gP hp) (cC I.gP hq) hu (fun j _ h1=>absurd h1 (Nat.not_lt_zero j)) ?_;rw[<-pC (readsAll_len r1)]at h;rcases vs with _|_<;>simpa [isNil]using out h
  ·intro _ h rx ry;refine hn ?_;refine cG rx fun p vs as hp r1=>?_;refine cG ry fun q ws bs hq r2=>?_;rcases r2 with _|_;exact Ko (bZ I.gP hp) (bZ I.gP hq) hu (by rw[pC (readsAll_len r1)];exact out h)
  ·intro i j h rx ry;refine hn ?_;refine qS h fun c r hr h=>?_;revert hr;refine gY (motive:=fun c=>σ.n4 i=some (.list c r)->_) h fun h hr=>?_;refine qS h fun c' t ht h=>?_;revert ht;refine gY (motive:=fun c'=>σ.n4 j=some (.list c' t)->_) h fun h ht=>?_
   ·refine Qb (h) fun xs ys jc nY hk=>?_;subst jc;subst nY;refine lY (ij I hr) fun p ws k e1 _ hg WZ=>?_;refine lY (ij I ht) fun q us m e2 _ W0 UJ=>?_;refine bR (rx) fun p' z1 jc=>?_;subst jc;refine bR (ry) fun q' z2 jc=>?_;subst jc;obtain rfl:=Option.some.inj (Option.some.inj (e1.symm.trans z1));obtain rfl:=Option.some.inj (Option.some.inj (e2.symm.trans z2));rw[jL]at WZ UJ;obtain⟨as,ra⟩:=gR WZ;obtain⟨bs,rb⟩:=gR UJ;rw[<-List.map_reverse]at ra rb;refine HV (fP hg) (fP W0) ra rb hu ?_;have:decide (xs.reverse=ys.reverse)=decide (xs=ys):=by
     rw[decide_eq_decide];exact List.reverse_inj
    rw[this];exact out hk
 |ne=>
  have h:WT x y σ K:=h;refine bc fun hn=>?_;revert rx ry;refine UI h ?_ ?_ ?_ ?_ ?_
  ·intro _ _ h rx ry;refine hn ?_;refine bx rx fun t=>?_;refine bx ry fun u=>?_;refine PySem.P.ne_str ?_;have:∀(a b:Str),(a.cps.toList != b.cps.toList)= !fb a b:=fun a b=>by rw[<-Gu];rfl
   rw[this];exact out h
  ·intro _ h rx ry;refine hn ?_;refine dR rx ?_;refine bx ry fun u=>?_;exact EqNone.ne_none_str (out h)
  ·intro _ _ h rx ry;refine hn ?_;refine aK rx fun t=>?_;refine aK ry fun u=>?_;refine PySem.P.ne_int ?_;have:∀(a b:Int),(a != b)= !decide (a=b):=fun _ _=>rfl;rw[this];exact out h
  ·intro _ h rx ry;refine hn ?_;refine cG rx fun p vs as hp r1=>?_;refine cG ry fun q ws bs hq r2=>?_;rcases r2 with _|_;exact Cs (bZ I.gP hp) (bZ I.gP hq) hu (by rw[pC (readsAll_len r1)];exact out h)
  ·intro i h rx ry;refine hn ?_;refine qS h fun c r hr h=>?_
   ·refine lY (ij I hr) fun p ws k e1 _ hg WZ=>?_;refine bR (rx) fun p' z1 jc=>?_;subst jc;obtain rfl:=Option.some.inj (Option.some.inj (e1.symm.trans z1));refine cG ry fun q us bs hq r2=>?_;rcases r2 with _|_;refine Cs (fP hg) (bZ I.gP hq) hu ?_;have:isNil ws=(isNil c&&isNil r):=by
     refine az (pC (d7 WZ)) ?_;have e:=ik c r;revert e;rcases c with _|_<;>rcases r with _|_<;>cases hi:items _ _<;>simp[isNil]
    rw[this];exact out h
 |lt=>
  refine bc fun hn=>?_;revert rx ry;refine cN h fun x h=>ui h fun a h=>cN h fun y h=>ui h fun b h rx ry=>hn ?_;refine aK rx fun t=>?_;refine aK ry fun u=>?_;exact wpAny_lt_int (out h)
 |gt=>
  refine bc fun hn=>?_;revert rx ry;refine cN h fun x h=>ui h fun a h=>cN h fun y h=>ui h fun b h rx ry=>hn ?_;refine aK rx fun t=>?_;refine aK ry fun u=>?_;exact gt_int (out h)
 |is=>
  refine bc fun hn=>?_;revert rx ry;refine cN h fun y h=>Qi h fun h=>cN h fun x h rx ry=>hn ?_;refine dR ry ?_;obtain⟨as,r⟩:=rx;refine wpAny_is_plain (by rcases r with _|_<;>rfl) ?_;have:(v==Value.none)=isNone x:=by rcases r with _|_<;>simp[isNone]
  rw[this];exact out h
 |nW=>
  refine bc fun hn=>?_;revert rx ry;refine cN h fun y h=>Qi h fun h=>cN h fun x h rx ry=>hn ?_;refine dR ry ?_;obtain⟨as,r⟩:=rx;refine wpAny_isNot_plain (by rcases r with _|_<;>rfl) ?_;have:(v==Value.none)=isNone x:=by rcases r with _|_<;>simp[isNone]
  rw[this];exact out h
 |isin=>
  refine bc fun hn=>?_;revert rx ry;have h:O3 G.tab x y σ K:=h
  induction y using ag.casesOn with
  |d y=>
   refine JB h fun l h=>cN h fun x h=>?_
   induction x using PyData.casesOn with
   |str s=>
    refine fun rx ry=>hn ?_;refine lN h fun b e h=>?_;refine bx rx fun t=>?_;refine dv ry fun q ws bs hq r2=>?_;exact HW (cC I.gP hq) r2 e (out h)
   |int s=>
    refine fun rx ry=>hn ?_;refine lN h fun b e h=>?_;refine aK rx fun t=>?_;refine dv ry fun q ws bs hq r2=>?_;exact HX (cC I.gP hq) r2 e (out h)
   |_=>exact nf h
  |b i=>
   refine cN h fun x h=>JA h fun xx h=>Hj h fun l hl h rx ry=>hn ?_;refine bx rx fun t=>?_;refine DQ (la I hl) fun p gM e1 ho hd hr=>?_;refine bR (ry) fun p' z1 jc=>?_;subst jc;obtain rfl:=Option.some.inj (Option.some.inj (e1.symm.trans z1));refine wpAny_in_of (tU _ _ _ _) (Af H I ho (fun z=>nomatch z)) hd.mapOf ?_;have:=pD (x:=xx) hr;rw[pE]at h;cases q:dF xx l with
   |none=>rw[q]at this h;rw[this];exact out h
   |some m=>rw[q]at this h;obtain⟨u,e,_⟩:=this;rw[e];exact out h
  |g=>
   refine cN h fun x h=>JA h fun xx h rx ry=>hn ?_;refine bx rx fun t=>?_;rcases ry with _|_;refine ja (H.Nq) fun f hm hs hf=>?_;refine wpAny_in_of (tU _ _ _ _) hs (oE hm fun b o e=>I.gP _ _ (I.fT _ _ e)) ?_;have:=hf xx;rw[pE]at h;cases q:dF xx G.tab with
   |none=>rw[q]at this h;rw[this];exact out h
   |some m=>rw[q]at this h;obtain⟨u,e,_⟩:=this;rw[e];exact out h
  |_=>exact nf h
 |yv=>
  refine bc fun hn=>?_;revert rx ry;have h:TJ G.tab x y K:=h
  induction y using ag.casesOn with
  |d y=>
   refine JB h fun l h=>cN h fun x h=>JA h fun s h rx ry=>hn ?_;refine lN h fun b e h=>?_;refine bx rx fun t=>?_;refine dv ry fun q ws bs hq r2=>?_;exact Ae (cC I.gP hq) r2 e (out h)
  |g=>
   refine cN h fun x h=>JA h fun xx h rx ry=>hn ?_;refine bx rx fun t=>?_;rcases ry with _|_;refine ja (H.Nq) fun f hm hs hf=>?_;refine wpAny_notIn_of (tU _ _ _ _) hs (oE hm fun b o e=>I.gP _ _ (I.fT _ _ e)) ?_;have:=hf xx;rw[pE]at h;cases q:dF xx G.tab with
   |none=>rw[q]at this h;rw[this];exact out h
   |some m=>rw[q]at this h;obtain⟨u,e,_⟩:=this;rw[e];exact out h
  |_=>exact nf h
end
section
variable{W:Wd}{N:Nm}{G:Own}{A:Around}{s:Shared}{g:Gh}{σ:St}{env:Env}{ê:ak}{d n:Nat}
theorem jr{k:Nat}(h:k<=ah):(k:Int)<2 ^ 63:=by
 have:k<=1000000:=h;omega
theorem Kr{k len:Nat}(h:k<len):seqIndex? (k:Int) len=some k:=by
 unfold seqIndex?;have h1:¬((k:Int)<0):=by exact Int.not_lt.mpr (xD (DS (k)))
 simp[h1,h]
theorem oF{h:Heap}{vs:List Value}{xs:List D}{as:List Addr}(r:ReadsAll h vs xs as){j:Nat}{x:D}(e:aq xs j=some x):∃v,vs[j]?=some v/\dQ h x v:=
 ll (motive:=fun vs xs=>∀j x,aq xs j=some x->∃v,vs[j]?=some v/\dQ h x v) (fun _ _ e=>Bp e) (fun _ _ _ _ _ _ a _ ih j x e=>by
  induction j using Nat.casesAuxOn with
  |zero=>rcases e with _|_;exact⟨_,rfl,_,a⟩
  |succ j=>
   refine bR (ih j x e) fun v h1 h2=>?_;exact⟨v,by simpa using h1,h2⟩) r j x e
theorem wa:∀{l:List ag} {ws:List Value},cc W g l ws->∀{j:Nat} {m:ag},aq l j=some m->∃v,ws[j]?=some v/\bG W g m v
 |_::_,_::_,⟨a,r⟩,0,m,e=>by rcases e with _|_;exact⟨_,rfl,a⟩
 |_::_,_::_,⟨a,r⟩,j+1,m,e=>by
  refine bR (wa r (j:=j) e) fun v h1 h2=>?_;exact⟨v,by simpa using h1,h2⟩
 |[],[],_,_,_,e=>by cases e
 |[],_::_,z,_,_,_=>z.elim
 |_::_,[],z,_,_,_=>z.elim
theorem mN {prog:Program} {w:World} {E:Value->Shared->Prop} {value slice:Expr} {o i:Value} {T id:String} {Q:Value->Shared->Prop} (ht:s.TypeIs o T) (hl:typeLookup (.type T) (Str.ofString "__getitem__")=pure (some (.builtin id)))
  (hs:oh slice=true) (h:wpAny (model prog w) A (getItem o i) Q E s):wpAny (model prog w) A (subscriptTail value slice o i) Q E s:=
 tail_any (ops:=[o,i]) ht hl h (by rcases slice with _|_<;>first|rfl|(rcases hs with _|_;done))
theorem qB(I:Inv W g σ s.heap){i:Nat}{c:List ag}{r:List D}(h:aq σ.temps i=some (.list c r)):∃a ws k,aq g.lt i=some a/\g.O a=.t i/\s.heap.get? a=some (eA ws k)/\cc W g (items c r) ws:=by
 refine ja (I.ct i _ h) fun a e UK _=>?_;refine bc fun bf=>?_;obtain⟨ho,ws,k,hg,hr⟩:=UK;refine bf ?_;exact⟨a,ws,k,e,ho,hg,hr⟩
theorem EW{c:List ag}{r:List D}{m:ag}(h:lastOf c r=some m):∃l,items c r=l++[m]:=by
 unfold lastOf at h
 induction c using List.casesOn with
 |cons x c=>cases h;exact⟨(c++r.map ag.d).reverse,by unfold items;rw[List.cons_append,List.reverse_cons]⟩
 |nil=>
  induction r using List.casesOn with
  |nil=>cases h
  |cons y r=>cases h;exact⟨(r.map ag.d).reverse,by unfold items;rw[List.nil_append,List.map_cons,List.reverse_cons]⟩
theorem wb{l:List ag}{m:ag}:∀{ws:List Value},cc W g (l++[m]) ws->∃us v,ws=us++[v]/\bG W g m v:=by
 induction l with
 |nil=>intro ws h;induction ws using List.casesOn with
  |nil=>exact h.elim
  |cons w ws=>induction ws using List.casesOn with
   |nil=>exact⟨[],w,rfl,h.1⟩
   |cons _ _=>exact h.2.elim
 |cons x l ih=>intro ws h;induction ws using List.casesOn with
  |nil=>exact h.elim
  |cons w ws=>
   refine n6 (ih h.2) fun us v e r=>?_;exact⟨w::us,v,by rw[e];rfl,r⟩
set_option tactic.hygienic true in
theorem yJ{prog:Program}{w:World}{E:Value->Shared->Prop}{a:Addr}{ws:List Value}{k':Nat}{c:List ag}{r:List D}{k:Int}{t:Tok}{K:ag->Prop}{Q:Value->Shared->Prop}{slice value:Expr}(hs:oh slice=true)
  (hg:s.heap.get? a=some (eA ws k')) (hr:cc W g (items c r) ws)
  (h:match k with
   |.ofNat m=>match aq (items c r) m with|some x=>small m (K x)|none=>False
   |.negSucc 0=>match lastOf c r with|some x=>K x|none=>False
   |.negSucc _=>False) (q:∀m v,K m->bG W g m v->Q v s):wpAny (model prog w) A (subscriptTail value slice (.ref a) (.int k t)) Q E s:=by
 have hl:=fP hg;refine mN hl.typeIs PySem.slot_list_getitem.lookup hs ?_;have hlen:=d7 hr;rw[ik]at hlen;split at h
 ·rename_i m;split at h
  ·rename_i x e;refine bR (wa hr e) fun v h1 h2=>?_;have qC:=dw h;have hb:=qC.1;have h:=qC.2;clear qC;exact wpAny_getItem_list hl (Int.natCast_nonneg m) (jr hb) (by simpa using h1) (q _ _ h h2)
  ·exact h.elim
 ·split at h
  ·rename_i x e;obtain⟨l,e'⟩:=EW e;rw[e']at hr;refine n6 (wb hr) fun us v jc h2=>?_;subst jc;refine wpAny_getItem_list_neg hl (by decide) ?_ (by decide) ?_ (q _ _ h h2)
   ·simp;exact xD (DS (us.length))
   ·have:((Int.negSucc 0)+((us++[v]).toArray.size:Int)).toNat=us.length:=by
     simp;omega
    rw[this];simp
  ·exact h.elim
 ·exact h.elim
theorem HY{l:List (Str×ag)}{gM:List (Str×Value)}{x:Str}{m:ag}(h:gh W g l gM)(e:dF x l=some m):∃v,valueAt gM x=some v/\bG W g m v:=by
 have:=pD (x:=x) h;rw[e]at this;exact this
set_option tactic.hygienic true in
@[elab_as_elim] theorem QP{motive:ag->ag->Prop}{tab:List (Str×D)}{o i:ag}{σ:St}{K:ag->Prop}(h:u9 tab o i σ K)(h1:∀x,u9 tab .g (.d (.str x)) σ K->motive .g (.d (.str x)))
  (h2:∀l k,u9 tab (.d (.tuple l)) (.d (.int k)) σ K->motive (.d (.tuple l)) (.d (.int k))) (h3:∀l k,u9 tab (.d (.list l)) (.d (.int k)) σ K->motive (.d (.list l)) (.d (.int k))) (h4:∀l k,u9 tab (.d (.str l)) (.d (.int k)) σ K->motive (.d (.str l)) (.d (.int k)))
  (h5:∀l k,u9 tab (.b l) (.d (.int k)) σ K->motive (.b l) (.d (.int k))) (h6:∀l k,u9 tab (.t l) (.d (.int k)) σ K->motive (.t l) (.d (.int k))) (h7:∀l k,u9 tab (.b l) (.d (.str k)) σ K->motive (.b l) (.d (.str k))):motive o i:=by
 induction i using ag.casesOn with
 |d y=>
  induction o using ag.casesOn with
  |g=>rcases y with _|_<;>first|exact nf h|exact h1 _ h
  |d x=>rcases x with _|_<;>first|exact nf h|(rcases y with _|_<;>first|exact nf h|exact h2 _ _ h|exact h3 _ _ h|exact h4 _ _ h)
  |b n=>rcases y with _|_<;>first|exact nf h|exact h5 _ _ h|exact h7 _ _ h
  |t n=>rcases y with _|_<;>first|exact nf h|exact h6 _ _ h
  |_=>exact nf h
 |_=>rcases o with _|_<;>first|exact nf h|(rename_i x;rcases x with _|_<;>exact nf h)
set_option tactic.hygienic true in
theorem QQ(H:iJ W N G)(a:ix d n A)(I:Inv W g σ s.heap)(C:aS W g env ê s.heap){value slice:Expr}{x y:ag}{v w:Value}{K:ag->Prop}(hs:oh slice=true)(rx:bG W g x v)(ry:bG W g y w)(h:u9 G.tab x y σ K):
  wpAny (model W.prog W.w) A (subscriptTail value slice v w) (aR W env ê g σ s fun m aF=>aF=σ/\K m) NE s:=by
 have same:∀tk,dP W env ê g σ s g σ {s with toks:=tk}:=fun tk=>dP.ki I C (fun _ _ e=>e) rfl rfl;have out:∀{m:ag} {v:Value} {tk:Nat},K m->bG W g m v->aR W env ê g σ s (fun m aF=>aF=σ/\K m) v {s with toks:=tk}:=fun hk r=>⟨_,g,σ,⟨rfl,hk⟩,r,same _⟩;revert rx ry;refine QP h ?_ ?_ ?_ ?_ ?_ ?_ ?_
 ·intro xx h rx ry
  (conv at h=>whnf)
  cases rx;refine bx ry fun t=>?_;refine ja (H.Nq) fun f hm hsy hf=>?_;have Ho:=oE hm fun b o e=>I.gP _ _ (I.fT _ _ e);have:=hf xx;split at h
  ·rename_i dd e;rw[e]at this;refine bR (this) fun u e' r=>?_;exact mN Ho.typeIs PySem.slot_dict_getitem.lookup hs (wpAny_getItem_of (tU _ _ _ _) Ho e' (out h (r.mono I.fT)))
  ·exact h.elim
 ·intro l k h rx ry
  (conv at h=>whnf)
  refine dv rx fun p vs as hp r1=>?_;refine aK ry fun t=>?_;split at h
  ·rename_i xx e
   induction k using Int.casesOn with
   |negSucc _=>cases e
   |ofNat k=>
    have e:aq l k=some xx:=e;refine bR (oF r1 e) fun u h1 h2=>?_;have p9:k<vs.length:=(List.getElem?_eq_some_iff.mp h1).1;have qC:=dw h;have hb:=qC.1;have h:=qC.2;clear qC;have rI:=cC I.gP hp;refine mN rI.typeIs slot_tuple_getitem.lookup hs (getItem_tuple rI ?_ (jr hb) (Kr (by simpa using p9)) (by simpa using h1) (out h h2));exact Int.le_trans (by decide) (Int.natCast_nonneg k)
  ·exact h.elim
 ·intro l k h rx ry
  (conv at h=>whnf)
  refine cG rx fun p vs as hp r1=>?_;refine aK ry fun t=>?_;split at h
  ·rename_i xx e
   induction k using Int.casesOn with
   |negSucc _=>cases e
   |ofNat k=>
    have e:aq l k=some xx:=e;refine bR (oF r1 e) fun u h1 h2=>?_;have qC:=dw h;have hb:=qC.1;have h:=qC.2;clear qC;have rI:=bZ I.gP hp;exact mN rI.typeIs PySem.slot_list_getitem.lookup hs (wpAny_getItem_list rI (Int.natCast_nonneg k) (jr hb) (by simpa using h1) (out h h2))
  ·exact h.elim
 ·intro xx k h rx ry
  (conv at h=>whnf)
  refine bx rx fun t=>?_;refine aK ry fun u=>?_;split at h
  ·rename_i k;split at h
   ·rename_i c e;have qC:=dw h;have hb:=qC.1;have h:=qC.2;clear qC;have p9:=mB e;rw[vf]at e;have Bx:=jr hb;refine mN (T:= "str") rfl F.slot_str_getitem.lookup hs (PySem.P.getItem_str (i:=Int.ofNat k) (c:=c) ?_ ?_ (out h (nJ _ _)))
    ·have h1:¬((k:Int)< -2 ^ 63):=by have:=Int.natCast_nonneg k;omega
     have h2:¬((k:Int)>=2 ^ 63):=by omega
     show(decide ((k:Int)< -2 ^ 63)||decide ((k:Int)>=2 ^ 63))=false;rw[decide_eq_false h1,decide_eq_false h2];rfl
    ·refine az (show Int.ofNat k=(k:Int)from rfl) ?_;refine az (Kr (show k<xx.length from p9)) ?_
     simpa using e
   ·exact h.elim
  ·exact h.elim
 ·intro i k h rx ry
  (conv at h=>whnf)
  refine aK ry fun u=>?_;split at h
  ·rename_i c r e;refine lY (ij I e) fun p ws k' e1 _ hg hr=>?_;refine bR (rx) fun p' e2 jc=>?_;subst jc;obtain rfl:=Option.some.inj (Option.some.inj (e1.symm.trans e2));exact yJ hs hg hr h fun m v hk r=>out hk r
  ·exact h.elim
 ·intro i k h rx ry
  (conv at h=>whnf)
  refine aK ry fun u=>?_;split at h
  ·rename_i c r e;refine lY (qB I e) fun p ws k' e1 _ hg hr=>?_;refine bR (rx) fun p' e2 jc=>?_;subst jc;obtain rfl:=Option.some.inj (e1.symm.trans e2);exact yJ hs hg hr h fun m v hk r=>out hk r
  ·exact h.elim
 ·intro i xx h rx ry
  (conv at h=>whnf)
  refine bx ry fun u=>?_;split at h
  ·rename_i l e;refine DQ (la I e) fun p gM e1 _ hd hr=>?_;refine bR (rx) fun p' e2 jc=>?_;subst jc;obtain rfl:=Option.some.inj (Option.some.inj (e1.symm.trans e2));split at h
   ·rename_i m em;refine bR (HY hr em) fun v e' r=>?_;exact mN hd.mapOf.typeIs PySem.slot_dict_getitem.lookup hs (wpAny_getItem_of (tU _ _ _ _) hd.mapOf e' (out h r))
   ·exact h.elim
  ·exact h.elim
end
section
variable{W:Wd}{N:Nm}{G:Own}{A:Around}{s:Shared}{g:Gh}{σ:St}{env:Env}{ê:ak}{d n:Nat}
theorem wc(x y:Str)(t:Tok):(Value.str x t).isStr y=fb x y:=by
 rw[Bool.eq_iff_iff,bj];show(x==y)=true↔x=y;rw[beq_iff_eq]
theorem rJ{a:Str}:∀{l:List (Str×ag)} {es:List DictEntry},nX W g l es->(match dF a l with
  |some m=>∃v,getL a es=some (some v)/\bG W g m v
  |none=>getL a es=some none)/\es.any (·.refKey)=false
 |[],[],_=>⟨rfl,rfl⟩
 |p::l,e::es,⟨⟨t,hk⟩,r,rs⟩=>by
  obtain⟨ih,na⟩:=rJ (a:=a) rs;have hr:e.refKey=false:=by unfold DictEntry.refKey;rw[hk]
  refine⟨?_,by rw[List.any_cons,hr,na];rfl⟩;unfold getL at ih⊢;rw[List.find?_cons,hk,wc];unfold dF;cases z:fb p.1 a with
  |true=>exact⟨_,rfl,r⟩
  |false=>
   simp only;refine az (List.any_cons) ?_;refine az (hr) ?_;exact ih
 |[],_::_,z=>z.elim
 |_::_,[],z=>z.elim
theorem Ks{a:Str}{m:ag}{v:Value}(hv:bG W g m v){Kt:Int}{t:Tok}:∀{l:List (Str×ag)} {es:List DictEntry},nX W g l es->nX W g (jb a m l) (putL a Kt (.str a t) v es):=by
 intro l0
 induction l0 with
 |nil=>
  intro l1;rcases l1 with _|⟨y0,nR⟩
  ·intro _;exact⟨⟨_,rfl⟩,hv,trivial⟩
  ·intro z;exact z.elim
 |cons p l ih=>
  intro l1;rcases l1 with _|⟨e,es⟩
  ·intro z;exact z.elim
  ·rintro ⟨⟨t,hk⟩,r,rs⟩
   unfold putL jb;rw[hk,wc];cases z:fb p.1 a with
   |true=>exact⟨⟨t,rfl⟩,hv,rs⟩
   |false=>exact⟨⟨t,hk⟩,r,ih rs⟩
theorem Ku:∀{l:List (Str×ag)} {es:List DictEntry},nX W g l es->es.length=l.length:=by
 intro l0
 induction l0 with
 |nil=>
  intro l1;rcases l1 with _|⟨y0,nR⟩
  ·intro _;exact rfl
  ·intro z;exact z.elim
 |cons x0 Jq ih=>
  intro l1;rcases l1 with _|⟨y0,nR⟩
  ·intro z;exact z.elim
  ·rintro ⟨_,_,r⟩
   exact congrArg (·+1) (ih r)
theorem Cu{a:Str}{Kt:Int}{k v:Value}:∀{es:List DictEntry},(putL a Kt k v es).length<=es.length+1
 |[]=>Nat.le_refl _
 |e::es=>by
  unfold putL;split
  ·simp
  ·have:=Cu (a:=a) (Kt:=Kt) (k:=k) (v:=v) (es:=es);simp;omega
theorem QR:∀{l:List (Str×D)} {es:List DictEntry},Bv g.B l es->nX W g (l.map fun p=>(p.1,ag.d p.2)) es:=by
 intro l0
 induction l0 with
 |nil=>
  intro l1;rcases l1 with _|⟨y0,nR⟩
  ·intro _;exact trivial
  ·intro h;exact h.elim
 |cons p l ih=>
  intro l1;rcases l1 with _|⟨e,es⟩
  ·intro h;exact h.elim
  ·rintro ⟨a,b,c⟩
   exact⟨a,b,ih c⟩
theorem Cv{a:Str}:∀{l:List (Str×D)},dF a (l.map fun p=>(p.1,ag.d p.2))=(dF a l).map ag.d
 |[]=>rfl
 |p::l=>by
  rw[List.map_cons];unfold dF;cases z:fb p.1 a with
  |true=>rfl
  |false=>exact Cv
theorem wd{m:ag}{v:Value}(r:bG W g m v):handedIn v=true:=by
 induction m using ag.casesOn with
 |d x=>obtain⟨as,r⟩:=r;rcases r with _|_<;>rfl
 |fn f=>rcases r with _|_;rfl
 |ob k l=>obtain⟨a,dx,es,n,rfl,_⟩:=r;rfl
 |b i=>obtain⟨p,_,rfl⟩:=r;rfl
 |t i=>obtain⟨p,_,rfl⟩:=r;rfl
 |g=>rcases r with _|_;rfl
theorem ta{a:Str}{m:ag}(hm:ke m=true):∀{l:List (Str×ag)},kJ l=true->kJ (jb a m l)=true:=by
 intro l0
 induction l0 with
 |nil=>
  intro _;show(ke m&&true)=true;rw[hm];rfl
 |cons p l ih=>
  intro h;have h:(ke p.2&&kJ l)=true:=h;rw[Bool.and_eq_true]at h;unfold jb;split
  ·show(ke m&&kJ l)=true;rw[hm,h.2];rfl
  ·show(ke p.2&&kJ (jb a m l))=true;rw[h.1,ih h.2];rfl
theorem Ag(H:iJ W N G)(I:Inv W g σ s.heap):W.K.In s.heap:=fun a o e=>I.gP _ _ (I.fT _ _ (H.Np a o e))
theorem Gv(H:iJ W N G)(I:Inv W g σ s.heap){x dx:Addr}{k:Nat}{es:List DictEntry}{m:Nat}{a:Str}{v:Value}{Q:Value->Shared->Prop}{E:Value->Shared->Prop}{expr:Bool}(ha:uj a N.attrs=true)(h1:s.heap.get? x=some (instObj (W.ca k) dx))(h2:s.heap.get? dx=some (dictOf es m))(hl:getL a es=some (some v))(hv:handedIn v=true)
  (q:Q v {s with toks:=s.toks+1}):wpAny (model W.prog W.w) A (getAttr (.ref x) a expr) Q E s:=
 get_value (Ag H I) (od:=some (dictOf es m)) ⟨h1,rfl,rfl,h2⟩ (H.cga k) (findObj_own (H.YJ k) (H.YI k a ha) rfl hl) hv q
theorem Gw(H:iJ W N G)(I:Inv W g σ s.heap)(C:aS W g env ê s.heap){x:ag}{a:Str}{v:Value}{K:ag->Prop}{expr:Bool}(ha:uj a N.attrs=true)(rx:bG W g x v)(h:Br x a σ K):
  wpAny (model W.prog W.w) A (getAttr v a expr) (aR W env ê g σ s fun m aF=>aF=σ/\K m) NE s:=by
 have same:∀tk,dP W env ê g σ s g σ {s with toks:=tk}:=fun tk=>dP.ki I C (fun _ _ e=>e) rfl rfl;refine bc fun hn=>?_;revert rx
 induction x using ag.casesOn with
 |b i=>
  refine TH h fun k l e h rx=>hn ?_;refine bc fun bf=>?_;obtain⟨p,e1,_,_,_,h1,es,m,h2,hf⟩:=I.cb i _ (iM.mp e);refine bf ?_;refine bR (rx) fun p' e2 jc=>?_;subst jc;obtain rfl:=Option.some.inj (Option.some.inj (e1.symm.trans e2));have:=(rJ (a:=a) hf).1;refine lN h fun w ew h=>?_;rw[ew]at this;refine bR (this) fun u hl r=>?_;exact Gv H I ha h1 h2 hl (wd r) ⟨w,g,σ,⟨rfl,h⟩,r,same _⟩
 |ob k l=>
  refine fun rx=>hn ?_;refine Jy (rx) fun p dx es m YK h1 h2 hf=>?_;subst YK;have:=(rJ (a:=a) (QR (W:=W) hf)).1;rw[Cv]at this;refine lN h fun w ew h=>?_;rw[ew]at this;refine bR (this) fun u hl r=>?_;exact Gv H I ha (I.gP _ _ h1) (I.gP _ _ h2) hl (wd r) ⟨.d w,g,σ,⟨rfl,h⟩,r,same _⟩
 |_=>exact nf h
set_option tactic.hygienic true in
theorem Nr(H:iJ W N G)(I:Inv W g σ s.heap){x dx:Addr}{k:Nat}{es:List DictEntry}{m:Nat}{a:Str}{v:Value}{Q:Unit->Shared->Prop}{E:Value->Shared->Prop}(ha:uj a N.attrs=true)(h1:s.heap.get? x=some (instObj (W.ca k) dx))(h2:s.heap.get? dx=some (dictOf es m))(hl:(getL a es).isSome=true)(hz:es.length<=900)
  (q:∀h' tk Kt t,(∀b o,b≠dx->s.heap.get? b=some o->h'.get? b=some o)->h'.get? dx=some (dictOf (putL a Kt (.str a t) v es) (putN a es m))->Q () {s with heap:=h',toks:=tk}):wpAny (model W.prog W.w) A (setAttr (.ref x) a v) Q E s:=by
 have X:=Ag H I;have II:InstAt s.heap x (instObj (W.ca k) dx) (W.ca k) (some (dictOf es m)):=⟨h1,rfl,rfl,h2⟩;have ht:takerIn W.K (W.ca k) a=some none:=by unfold takerIn;rw[H.YI k a ha];rfl
 refine set_plain X II (H.csa k) (osa_open (s:={s with toks:=s.toks+1}) X II (H.cpl k) ht fun b=>?_);refine bR (any_some (H.YJ k)) fun cd hc Kv=>?_;obtain⟨h,gg,dd,tt,os⟩:=s;have X:W.K.In h:=X;refine wpAny_bind (wpAny_pure (wpAny_bind (wpAny_bind (wpAny_loadPart h1 (wpAny_bind ((looks_clsIn X hc).here ?_))))));refine az (Kv) ?_;refine wpAny_pure (a:=some dx) (wpAny_bind (wpAny_pure (wpAny_bind ?_)));unfold nsSet;refine wpAny_bind (wpAny_bind (wpAny_askSetting (wpAny_pure (wpAny_bind (wpAny_mkText (wpAny_bind (wpAny_loadPart h2 ?_)))))));dsimp only;unfold getL at hl;have c:(!es.toArray.any (·.key.isStr a)&&es.toArray.any (·.refKey))=false:=by
  refine Jn (Array.any_toList) ?_;refine Jn (Array.any_toList) ?_;split at hl
  ·rename_i en he;rw[List.any_eq_true.mpr ⟨en,List.mem_of_find?_eq_some he,List.find?_some he⟩];rfl
  ·split at hl
   ·rcases hl with _|_
   ·rename_i z;rw[Bool.not_eq_true]at z;rw[z,Bool.and_false]
 rw[aRefKeyMayBeTheName_at,c];refine wpAny_updatePart h2 ?_;have D':=Heap.get?_update_self (h:=h) (Obj.putName a (PyData.keyHash W.w.params a) (.str a (tt+1)) v) h2 (by rw[putName_dict];rfl);rw[putName_dict]at D';refine wpAny_bind (wpAny_lookBehind D' (pastItsLine_dict (by have:=Cu (a:=a) (Kt:=PyData.keyHash W.w.params a) (k:=.str a (tt+1)) (v:=v) (es:=es);rw[List.size_toArray,sizeLine_eq];exact aZ hz this)) ?_);exact wpAny_pure (q _ _ _ _ (fun b o hb e=>by rw[Heap.get?_update_ne _ _ _ _ hb];exact e) D')
theorem qD(H:iJ W N G)(I:Inv W g σ s.heap)(C:aS W g env ê s.heap){x m:ag}{a:Str}{v w:Value}{K:St->Prop}(ha:uj a N.attrs=true)(rx:bG W g x v)(rm:bG W g m w)(h:og x a m σ K):
  wpAny (model W.prog W.w) A (setAttr v a w) (UE W env ê g σ s K) NE s:=by
 refine bc fun hnn=>?_;revert rx;refine tI h fun i h=>?_;refine TH h fun k l e h=>u7 h fun hm h=>Bq h fun nv h rx=>hnn ?_;refine bc fun bf=>?_;obtain⟨hlen,h⟩:=h;obtain⟨p,e1,o1,o2,ne,h1,es,m',h2,hf⟩:=I.cb i _ (iM.mp e);refine bf ?_;have o1:g.O p.1=.b i:=o1;have o2:g.O p.2=.b i:=o2;have h1:s.heap.get? p.1=some (instObj (W.ca k) p.2):=h1;have h2:s.heap.get? p.2=some (dictOf es m'):=h2;refine bR (rx) fun p' e2 jc=>?_;subst jc;obtain rfl:=Option.some.inj (Option.some.inj (e1.symm.trans e2));have hl:(getL a es).isSome=true:=by
  have:=(rJ (a:=a) hf).1;split at this
  ·obtain⟨_,e,_⟩:=this;rw[e];rfl
  ·rw[this];rfl
 refine Nr H I ha h1 h2 hl (by rw[Ku hf];omega) fun h' tk Kt t keep hn=>?_;have⟨I',P⟩:=I.M1 (q:=p.2) (h':=h') (o:=.inst k (jb a m l)) e1 o2 keep ⟨_,hn⟩ ⟨o1,o2,ne,keep _ _ ne h1,_,_,hn,Ks rm hf⟩ (ta hm (I.sb _ _ (iM.mp e)));exact⟨g,_,h,dP.step C I' P (fun _=>rfl) rfl rfl⟩
end
section
variable{W:Wd}{N:Nm}{G:Own}{A:Around}{s:Shared}{g:Gh}{σ:St}{env:Env}{ê:ak}{d n:Nat}
theorem lA(I:Inv W g σ s.heap){x:ag}{v:Value}{c:List ag}{r:List D}(rx:bG W g x v)(h:σ.obj x=some (.list c r)):∃a ws k,v=.ref a/\s.heap.get? a=some (eA ws k)/\cc W g (items c r) ws:=by
 induction x using ag.casesOn with
 |b i=>
  refine lY (ij I h) fun p ws k' e1 _ hg hr=>?_;refine bR (rx) fun p' e2 jc=>?_;subst jc;obtain rfl:=Option.some.inj (Option.some.inj (e1.symm.trans e2));exact⟨_,_,_,rfl,hg,hr⟩
 |t i=>
  refine lY (qB I h) fun p ws k' e1 _ hg hr=>?_;refine bR (rx) fun p' e2 jc=>?_;subst jc;obtain rfl:=Option.some.inj (e1.symm.trans e2);exact⟨_,_,_,rfl,hg,hr⟩
 |_=>exact Bp h
theorem QS(I:Inv W g σ s.heap)(C:aS W g env ê s.heap){x:ag}{v:Value}{K:Int->Prop}(rx:bG W g x v)(h:Ql x σ K):
  wpAny (model W.prog W.w) A (call (.builtin "len") [v]) (aR W env ê g σ s fun m aF=>aF=σ/\∃k,m=.d (.int k)/\K k) NE s:=by
 have same:∀tk,dP W env ê g σ s g σ {s with toks:=tk}:=fun tk=>dP.ki I C (fun _ _ e=>e) rfl rfl;have out:∀{k:Int} {t:Tok} {tk:Nat},K k->aR W env ê g σ s (fun m aF=>aF=σ/\∃k,m=.d (.int k)/\K k) (.int k t) {s with toks:=tk}:=fun hk=>⟨_,g,σ,⟨rfl,_,rfl,hk⟩,ig _ _,same _⟩;have QT:∀c r,σ.obj x=some (.list c r)->small (c.length+r.length) (K ((c.length+r.length:Nat):Int))->wpAny (model W.prog W.w) A (call (.builtin "len") [v]) (aR W env ê g σ s fun m aF=>aF=σ/\∃k,m=.d (.int k)/\K k) NE s:=fun c r e h=>by
  refine n8 (lA I rx e) fun a ws k nY hg hr=>?_;subst nY;have qC:=dw h;have hb:=qC.1;have h:=qC.2;clear qC;have e:ws.toArray.size=c.length+r.length:=by rw[<-ik,<-d7 hr];simp
  refine PyProof.Rows.len_list (fP hg) ?_ ?_
  ·rw[e];exact jr hb
  ·rw[e];exact out h
 refine bc fun hn=>?_;have QT:=fun c r e h=>hn (QT c r e h);revert rx QT
 induction x using ag.casesOn with
 |d x=>
  induction x using PyData.casesOn with
  |list l=>
   refine fun rx _=>hn ?_;refine cG rx fun a vs as ha r1=>?_;have qC:=dw h;have hb:=qC.1;have h:=qC.2;clear qC;have e:vs.toArray.size=l.length:=by simp[readsAll_len r1]
   refine PyProof.Rows.len_list (bZ I.gP ha) ?_ ?_
   ·rw[e];exact jr hb
   ·rw[e];exact out h
  |tuple l=>
   refine fun rx _=>hn ?_;refine dv rx fun a vs as ha r1=>?_;have qC:=dw h;have hb:=qC.1;have h:=qC.2;clear qC;have e:vs.toArray.size=l.length:=by simp[readsAll_len r1]
   refine PyProof.Rows.len_tuple (cC I.gP ha) ?_ ?_
   ·rw[e];exact jr hb
   ·rw[e];exact out h
  |str x=>
   refine fun rx _=>hn ?_;refine bx rx fun t=>?_;have qC:=dw h;have hb:=qC.1;have h:=qC.2;clear qC;exact PySem.P.len_str (by have:=jr hb;omega) (out h)
  |_=>exact nf h
 |b i=>exact qS h fun c r e h _ QT=>QT c r e h
 |t i=>exact qS h fun c r e h _ QT=>QT c r e h
 |_=>exact nf h
theorem mf{h:Heap}{vs:List Value}{xs:List D}{as:List Addr}(n:Nat)(r:ReadsAll h vs xs as):∃bs,ReadsAll h (vs.take n) (xs.take n) bs:=
 ll (motive:=fun vs xs=>∀n,∃bs,ReadsAll h (vs.take n) (xs.take n) bs) (fun n=>by rw[List.take_nil,List.take_nil];exact⟨_,.nil⟩)
  (fun _ _ _ _ _ _ a _ ih n=>by
   induction n using Nat.casesAuxOn with
   |zero=>exact⟨_,.nil⟩
   |succ n=>obtain⟨_,q⟩:=ih n;exact⟨_,.cons a q⟩) r n
theorem j7{h:Heap}{vs:List Value}{xs:List D}{as:List Addr}(n:Nat)(r:ReadsAll h vs xs as):∃bs,ReadsAll h (vs.drop n) (xs.drop n) bs:=
 ll (motive:=fun vs xs=>∀n,∃bs,ReadsAll h (vs.drop n) (xs.drop n) bs) (fun n=>by rw[List.drop_nil,List.drop_nil];exact⟨_,.nil⟩)
  (fun _ _ _ _ _ _ a r ih n=>by
   induction n using Nat.casesAuxOn with
   |zero=>exact⟨_,.cons a r⟩
   |succ n=>exact ih n) r n
theorem EX(I:Inv W g σ s.heap)(C:aS W g env ê s.heap){vs:List Value}{xs:List D}{as:List Addr}{Q:KV}(r:ReadsAll g.B vs xs as)(q:Q (.d (.tuple xs)) σ):
  aR W env ê g σ s Q (.ref s.heap.objs.size) {s with heap:=s.heap.push {cls:=.type "tuple",data:=.seq vs.toArray}}:=
 outD q ⟨_,.tuple (fU rfl) rfl rfl (ReadsAll.keeps (fi rfl (jn I (cY _))) (by simpa using r))⟩ (dP.push I C rfl)
theorem Kw(I:Inv W g σ s.heap)(C:aS W g env ê s.heap){vs:List Value}{xs:List D}{as:List Addr}{Q:KV}(r:ReadsAll g.B vs xs as)(q:Q (.d (.list xs)) σ):
  aR W env ê g σ s Q (.ref s.heap.objs.size) {s with heap:=s.heap.push {cls:=.type "list",data:=.seq vs.toArray}}:=
 outD q ⟨_,.list (fU rfl) rfl rfl (ReadsAll.keeps (fi rfl (jn I (cY _))) (by simpa using r))⟩ (dP.push I C rfl)
theorem eI{k:Nat}(h:k<=ah):k<=sizeLine:=by
 have:ah<=sizeLine:=by decide+kernel
 exact aZ h this
theorem EY(a b n:Nat)(hb:b<=n)(HZ:a<=b):Builtin.Slice.sliceAdjust (some (a:Int)) (some (b:Int)) 1 (n:Int)=((a:Int),(b:Int)):=by
 unfold Builtin.Slice.sliceAdjust;have h1:¬((1:Int)<0):=by exact Int.not_lt.mpr (by omega)
 have h2:¬((a:Int)<0):=by exact Int.not_lt.mpr (xD (DS (a)))
 have h3:¬((b:Int)<0):=by exact Int.not_lt.mpr (xD (DS (b)))
 simp only[h1,h2,h3,if_false]
 congr 1<;>omega
theorem EZ(a b:Nat)(HZ:a<=b):Builtin.Slice.slicePlaces (a:Int) (b:Int) 1=b-a:=by
 unfold Builtin.Slice.slicePlaces;have h1:(1:Int)>0:=by omega
 simp only[h1,if_true,Int.ediv_one];split<;>omega
theorem tc{prog:Program}{w:World}{E:Value->Shared->Prop}{sl:Addr}{a b n:Nat}{u u':Tok}{Q:Int×Int×Nat->Shared->Prop}(hs:s.heap.IsSliceOf sl (.int a u) (.int b u') .none)(hb:b<=n)(HZ:a<=b)(h:Q ((a:Int),1,b-a) s):
  wpAny (model prog w) A (Builtin.Slice.sliceApplied (.ref sl) (pure (n:Int))) Q E s:=by
 refine ja (id hs) fun os Ah W2 Pm=>?_;unfold Builtin.Slice.sliceApplied Builtin.Slice.sliceFields;refine wpAny_bind (wpAny_bind (wpAny_field Ah Pm (x:=.int a u) rfl (wpAny_bind (wpAny_field Ah Pm (x:=.int b u') rfl (wpAny_bind (wpAny_field Ah Pm (x:=.none) rfl (wpAny_pure ?_)))))));refine wpAny_bind (slicePart_none ?_);show wpAny _ _ (if((1:Int)==0)=true then _ else _) _ _ s;refine az (if_neg (by decide)) ?_;refine wpAny_bind (slicePart_int (wpAny_bind (slicePart_int (wpAny_bind (wpAny_pure ?_)))));show wpAny _ _ (match Builtin.Slice.sliceAdjust (some (a:Int)) (some (b:Int)) 1 (n:Int)with|(lo,hi)=>pure (lo,(1:Int),Builtin.Slice.slicePlaces lo hi 1)) _ _ s;refine az (EY a b n hb HZ) ?_;show wpAny _ _ (pure ((a:Int),(1:Int),Builtin.Slice.slicePlaces (a:Int) (b:Int) 1)) _ _ s;refine az (EZ a b HZ) ?_;exact wpAny_pure h
theorem H0(xs:Array Value)(a b:Nat)(HZ:a<=b)(hb:b<=xs.size):((List.range (b-a)).filterMap fun(k:Nat)=>xs[((a:Int)+(k:Int)*1).toNat]?).toArray=((xs.toList.take b).drop a).toArray:=by
 have e:(fun(k:Nat)=>xs[((a:Int)+(k:Int)*1).toNat]?)=fun k=>xs[a+k]?:=by
  funext k
  have:((a:Int)+(k:Int)*1).toNat=a+k:=by omega
  rw[this]
 rw[e];have:=pick_run xs a (b-a);rw[List.filterMap_map]at this;have e2:((fun x=>xs[x]?)∘fun x=>a+x)=fun k=>xs[a+k]?:=rfl;rw[e2]at this;rw[this,List.drop_take]
theorem rK{prog:Program}{w:World}{E:Value->Shared->Prop}{t sl:Addr}{items:Array Value}{a b:Nat}{u u':Tok}{Q:Value->Shared->Prop}(ht:IsTup s.heap t items)(hs:s.heap.IsSliceOf sl (.int a u) (.int b u') .none)(h1:1<=a)(HZ:a<=b)(ha:b<=items.size)
  (h:Q (.ref s.heap.objs.size) {s with heap:=s.heap.push {cls:=.type "tuple",data:=.seq ((items.toList.take b).drop a).toArray}})
  (WX:items.size<=sizeLine):wpAny (model prog w) A (getItem (.ref t) (.ref sl)) Q E s:=by
 have Kx:sizeOk (.seq ((items.toList.take b).drop a).toArray):=by
  show((items.toList.take b).drop a).toArray.size<=sizeLine;refine az (List.size_toArray) ?_;refine az (List.length_drop) ?_;refine az (List.length_take) ?_;refine az (Array.length_toList) ?_;omega
 refine ja (id hs) fun os Ah W2 Pm=>?_;have W3:s.TypeIs (.ref sl) "slice" :=⟨os,Ah,W2⟩;unfold getItem
 try with_reducible refine wpAny_holding ?_
 first|refine wpAny_bind (wpAny_pure ?_)|skip
 refine wpAny_bind (wpAny_sequenceKey ht.typeIs (by decide) ?_);refine wpAny_bind (wpAny_callSpecial?_slot (name:=Str.ofString "__getitem__") ht.typeIs slot_tuple_getitem
  (wpAny_call_entry slot_tuple_getitem ht.typeIs entry_tuple_getitem ?_ (args_tuple_getitem _ _)))
 show wpAny _ _ (Builtin.Tuple.tupleItemsOf (.ref t)>>= _) _ _ s;refine wpAny_bind (tupleItemsOf_ ht ?_);refine wpAny_bind (wpAny_typeOf W3 ?_);refine az (if_pos (by decide)) ?_;refine wpAny_bind (tc hs ha HZ ?_);have MG:¬(((a:Int)==0&&(1:Int)==1&&(b-a)==items.size)=true):=by
  have:((a:Int)==0)=false:=by rw[beq_eq_false_iff_ne];omega
  rw[this];simp
 show wpAny _ _ (if((a:Int)==0&&(1:Int)==1&&(b-a)==items.size)=true then _ else _) _ _ s;refine az (if_neg MG) ?_;refine az (H0 items a b HZ ha) ?_
 first
  |exact wpAny_bind (m:=Builtin.Tuple.tupleExact _) (wpAny_newObj_type (wpAny_pure ⟨_,rfl,wpAny_pure h⟩) Kx)
  |exact wpAny_bind (m:=Builtin.Tuple.tupleExact _) (wpAny_newObj_type (wpAny_bind (wpAny_pure (wpAny_pure ⟨_,rfl,wpAny_pure h⟩))) Kx)
  |exact wpAny_bind (wpAny_bind (m:=Builtin.Tuple.tupleExact _) (wpAny_newObj_type (wpAny_pure (wpAny_pure ⟨_,rfl,wpAny_pure h⟩)) Kx))
noncomputable def Nt(v:Value):Option Nat->Prop
 |none=>v=.none
 |some n=>∃t,v=.int (n:Int) t
theorem QU(I:Inv W g σ s.heap)(C:aS W g env ê s.heap){x:ag}{v lo hi:Value}{a b:Option Nat}{sl:Addr}{K:ag->Prop}(rx:bG W g x v)(h:Qj x a b K)(ra:Nt lo a)(rb:Nt hi b)(hs:s.heap.IsSliceOf sl lo hi .none):
  (∃T,(T= "list" \/T= "tuple")/\s.TypeIs v T)/\wpAny (model W.prog W.w) A (getItem v (.ref sl)) (aR W env ê g σ s fun m aF=>aF=σ/\K m) NE s:=by
 refine bc fun hn=>?_;revert rx;refine cN h fun x h=>?_
 induction x using PyData.casesOn with
 |tuple l=>
  refine fun rx=>hn ?_;refine dv rx fun p vs as hp r1=>?_;have rI:=cC I.gP hp;have e:vs.toArray.size=l.length:=by simp[readsAll_len r1]
  refine⟨⟨_,.inr rfl,rI.typeIs⟩,?_⟩;have h:TK l a b K:=h;revert ra rb;refine lN h fun a ea h ra rb=>?_;subst ea
  induction b using Option.casesOn with
  |none=>
   refine bc fun bf=>?_;obtain⟨⟨h1,h2,h3⟩,h⟩:=h;obtain⟨t,rfl⟩:=ra;rcases rb with _|_
   obtain⟨bs,r⟩:=j7 a r1;refine bf ?_;exact getItem_tuple_from rI hs h1 (by rw[e];exact h2) (EX I C r ⟨rfl,h⟩) (by rw[e];exact eI h3)
  |some b=>
   refine bc fun bf=>?_;obtain⟨⟨h1,h2,h3,h4⟩,h⟩:=h;obtain⟨t,rfl⟩:=ra;obtain⟨t',rfl⟩:=rb;obtain⟨bs,r⟩:=mf b r1;obtain⟨bs,r⟩:=j7 a r;refine bf ?_;exact rK rI hs h1 h2 (by rw[e];exact h3) (EX I C r ⟨rfl,h⟩) (by rw[e];exact eI h4)
 |list l=>
  refine fun rx=>hn ?_;refine cG rx fun p vs as hp r1=>?_;have rI:=bZ I.gP hp;have e:vs.toArray.size=l.length:=by simp[readsAll_len r1]
  refine⟨⟨_,.inl rfl,rI.typeIs⟩,?_⟩;have key:∀(YL:List Value) (xs:List D),(∃as,ReadsAll g.B YL xs as)->K (.d (.list xs))->aR W env ê g σ s (fun m aF=>aF=σ/\K m) (.ref s.heap.objs.size) {s with heap:=s.heap.push {cls:=.type "list",data:=.seq YL.toArray}}:=fun YL xs ⟨as,r⟩ k=>Kw I C r ⟨rfl,k⟩;have h:TL l a b K:=h;rcases a with _|a<;>rcases b with _|b
  ·exact nf h
  ·obtain⟨h1,h⟩:=h;refine bc fun bf=>?_;obtain⟨t,rfl⟩:=rb;rcases ra with _|_
   refine bf ?_;refine wpAny_getItem_list_slice rI hs .none (.int _ _) .none (by simp) ?_ (by rw[e];exact eI h1);rw[slicePick_upto'];exact key _ _ (mf _ r1) h
  ·obtain⟨h1,h⟩:=h;refine bc fun bf=>?_;obtain⟨t,rfl⟩:=ra;rcases rb with _|_
   refine bf ?_;refine wpAny_getItem_list_slice rI hs (.int _ _) .none .none (by simp) ?_ (by rw[e];exact eI h1);rw[slicePick_from'];exact key _ _ (j7 _ r1) h
  ·obtain⟨⟨h1,h2,h3⟩,h⟩:=h;refine bc fun bf=>?_;obtain⟨t,rfl⟩:=ra;obtain⟨t',rfl⟩:=rb;refine bf ?_;refine wpAny_getItem_list_slice rI hs (.int _ _) (.int _ _) .none (by simp) ?_ (by rw[e];exact eI h3);refine az (slicePick_run _ _ _ (by rw[e];exact h2) h1) ?_;refine key _ _ ?_ h;refine bc fun bf=>?_;obtain⟨bs,r⟩:=mf _ r1;obtain⟨bs,r⟩:=j7 _ r;refine bf ?_;rw[List.drop_take]at r;exact⟨bs,r⟩
 |_=>exact nf h
theorem QV(H:iJ W N G)(a:ix d n A)(hn:n<=300)(I:Inv W g σ s.heap)(C:aS W g env ê s.heap){x:ag}{v:Value}{K:D->Prop}(rx:bG W g x v)(h:Qo x K):
  wpAny (model W.prog W.w) A (call (.type "str") [v]) (aR W env ê g σ s fun m aF=>aF=σ/\∃z,m=.d z/\K z) NE s:=by
 have same:∀tk,dP W env ê g σ s g σ {s with toks:=tk}:=fun tk=>dP.ki I C (fun _ _ e=>e) rfl rfl;have UL:∀(dd:D) (a:Addr) (as:List Addr),Reads g.B (.ref a) dd as->dd.showable=true->dd.hasDict=false->dd.depth<=20->dd.shown.length<=ah->K (.str dd.shown)->wpAny (model W.prog W.w) A (call (.type "str") [.ref a]) (aR W env ê g σ s fun m aF=>aF=σ/\∃z,m=.d z/\K z) NE s:=fun dd p as r h1 h2 h3 h4 hk=>by
  refine str_of_reads r h1 (fun z=>by rw[h2]at z;rcases z with _|_) a.guards ?_ I.gP (fun h' u tk k=>?_) (eI h4)
  ·have:=a.units;show _<9900;exact aZ h3 this
  ·exact⟨_,g,σ,⟨rfl,_,rfl,hk⟩,nJ _ _,dP.ki I C k rfl rfl⟩
 refine bc fun hn=>?_;revert rx;refine cN h fun x h=>?_
 induction x using PyData.casesOn with
 |str x=>
  refine fun rx=>hn ?_;refine bx rx fun t=>?_;exact PySem.P.str_of_str ⟨_,g,σ,⟨rfl,_,rfl,h⟩,nJ _ _,same _⟩
 |int i=>
  refine fun rx=>hn ?_;refine aK rx fun t=>?_;have hb:=h.1;have h:=h.2;refine PySem.P.str_of_int ?_ ⟨_,g,σ,⟨rfl,_,rfl,h⟩,?_,same _⟩
  ·have h1:i.natAbs<=1000000:=hb;by_cases z:i.natAbs=0
   ·rw[z];decide+kernel
   ·have:=(Nat.log2_lt (n:=i.natAbs) (k:=1920) z).mpr (Nat.lt_of_le_of_lt h1 (by decide+kernel));exact this
  ·exact nJ _ _
 |bool b=>
  refine fun rx=>hn ?_;refine jq rx ?_;refine PySem.P.str_of_bool ⟨_,g,σ,⟨rfl,_,rfl,h⟩,?_,same _⟩;rcases b with _|_<;>exact nJ _ _
 |list l=>
  refine fun rx=>hn ?_;obtain⟨⟨h1,h2,h3,h4⟩,h⟩:=h;refine n8 (lz rx) fun p vs as nY _ _=>?_;subst nY;obtain⟨as,r⟩:=rx;exact UL _ _ _ r h1 h2 h3 h4 h
 |tuple l=>
  refine fun rx=>hn ?_;obtain⟨⟨h1,h2,h3,h4⟩,h⟩:=h;refine n8 (gV rx) fun p vs as nY _ _=>?_;subst nY;obtain⟨as,r⟩:=rx;exact UL _ _ _ r h1 h2 h3 h4 h
 |_=>exact nf h
theorem H3(I:Inv W g σ s.heap)(C:aS W g env ê s.heap){l:List D}{v:Value}(rx:bG W g (.d (.list l)) v)(h:l.length<=ah):
  wpAny (model W.prog W.w) A (call (.type "list") [v]) (aR W env ê g σ s fun m aF=>aF=σ/\m=.d (.list l)) NE s:=by
 refine cG rx fun p vs as hp r1=>?_;refine bc fun bf=>?_;obtain⟨o,ho,hc,n,hd⟩:=bZ I.gP hp;refine bf ?_;refine call_list_seq p (.inl rfl) ho hc hd (fun h' c' k hn=>?_) (by simp[readsAll_len r1];exact eI h);have⟨I',P⟩:=I.MY k (cY _) hn rfl;refine⟨.d (.list l),_,σ,⟨rfl,rfl⟩,?_,⟨I',C.post P fun _=>rfl,P,rfl,rfl⟩⟩;exact⟨_,.list (fU rfl) rfl rfl (ReadsAll.keeps (fi rfl (jn I (cY _))) (by simpa using r1))⟩
theorem E0(I:Inv W g σ s.heap)(C:aS W g env ê s.heap){l:List D}{v:Value}(rx:bG W g (.d (.list l)) v)(h:l.length<=ah):
  wpAny (model W.prog W.w) A (call (.type "tuple") [v]) (aR W env ê g σ s fun m aF=>aF=σ/\m=.d (.tuple l)) NE s:=by
 refine cG rx fun p vs as hp r1=>?_;refine call_tuple_list (bZ I.gP hp) (fun h' k=>?_) (by simp[readsAll_len r1];exact eI h);have hn:s.heap.get? h'.objs.size=none:=by
  cases q:s.heap.get? h'.objs.size with
  |none=>rfl
  |some o=>exact absurd (Heap.lt_size (k _ _ q)) (Nat.lt_irrefl _)
 have⟨I',P⟩:=I.MY (h':=h'.push {cls:=.type "tuple",data:=.seq vs.toArray}) (fun b o e=>Heap.get?_push_of_some _ (k b o e)) hn (Heap.get?_push_size _ rfl) rfl;refine⟨.d (.tuple l),_,σ,⟨rfl,rfl⟩,?_,⟨I',C.post P fun _=>rfl,P,rfl,rfl⟩⟩;exact⟨_,.tuple (fU rfl) rfl rfl (ReadsAll.keeps (fi rfl (jn I hn)) (by simpa using r1))⟩
end
section
variable{W:Wd}{N:Nm}{G:Own}{A:Around}{s:Shared}{g:Gh}{σ:St}{env:Env}{ê:ak}{d n:Nat}
theorem k6:∀{l m:List ag} {us vs:List Value},cc W g l us->cc W g m vs->cc W g (l++m) (us++vs)
 |[],_,[],_,_,r=>r
 |_::_,_,_::_,_,⟨a,b⟩,r=>⟨a,k6 b r⟩
 |[],_,_::_,_,z,_=>z.elim
 |_::_,_,[],_,z,_=>z.elim
theorem qE(x:ag)(c:List ag)(r:List D):items (x::c) r=items c r++[x]:=by
 unfold items;rw[List.cons_append,List.reverse_cons]
theorem oG(y:D)(r:List D):items [] (y::r)=items [] r++[.d y]:=by
 unfold items;rw[List.nil_append,List.nil_append,List.map_cons,List.reverse_cons]
theorem qF{x:ag}{c:List ag}(hx:ke x=true)(hc:jf c=true):jf (x::c)=true:=by
 show(ke x&&jf c)=true;rw[hx,hc];rfl
theorem QW{h:Heap}{a:Addr}{ws:List Value}{k:Nat}(hg:h.get? a=some (eA ws k))(f:Array Value->Array Value)(us:List Value)(e:f ws.toArray=us.toArray):∃k',(h.update a (Obj.mapSeq f)).get? a=some (eA us k'):=by
 refine⟨if(f ws.toArray).size==ws.toArray.size then k else k+1,(Heap.get?_update_self _ hg rfl).trans ?_⟩;show some ({cls:=.type "list",data:=.seq (f ws.toArray) (if(f ws.toArray).size==ws.toArray.size then k else k+1)}:Obj)=_;rw[e]
theorem Cw{h:Heap}{a:Addr}(f:Obj->Obj):∀b o,b≠a->h.get? b=some o->(h.update a f).get? b=some o:=fun b o hb e=>by
 rw[Heap.get?_update_ne _ _ _ _ hb];exact e
theorem oH(I:Inv W g σ s.heap)(C:aS W g env ê s.heap){x:ag}{v:Value}{c c':List ag}{r r':List D}(rx:bG W g x v)(hx:σ.obj x=some (.list c r)){l:Addr}{ws us:List Value}{k:Nat}(hv:v=.ref l)(hg:s.heap.get? l=some (eA ws k))(f:Array Value->Array Value)(e:f ws.toArray=us.toArray)
  (hr:cc W g (items c' r') us) (hT:∀i,x=.b i->jf c'=true) (hV:∀i,x=.t i->kB c'=true):dP W env ê g σ s g (σ.put x (.list c' r')) {s with heap:=s.heap.update l (Obj.mapSeq f)}:=by
 obtain⟨k',hn⟩:=QW hg f us e
 induction x using ag.casesOn with
 |b i=>
  refine lY (ij I hx) fun p ws' k'' e1 o1 _ _=>?_;refine bR (rx) fun p' e2 ev=>?_;obtain rfl:=Option.some.inj (Option.some.inj (e1.symm.trans e2));rw[hv]at ev;rcases ev with _|_
  have⟨I',P⟩:=I.M1 (q:=p.1) (h':=s.heap.update p.1 (Obj.mapSeq f)) (o:=.list c' r') e1 o1 (Cw _) ⟨_,hn⟩ ⟨o1,_,_,hn,hr⟩ (hT i rfl);exact dP.step C I' P (fun _=>rfl) rfl rfl
 |t i=>
  refine lY (qB I hx) fun p ws' k'' e1 o1 _ _=>?_;refine bR (rx) fun p' e2 ev=>?_;obtain rfl:=Option.some.inj (e1.symm.trans e2);rw[hv]at ev;rcases ev with _|_
  have⟨I',P⟩:=I.Yw (q:=l) (h':=s.heap.update l (Obj.mapSeq f)) (o:=.list c' r') e1 o1 (Cw _) ⟨_,hn⟩ ⟨o1,_,_,hn,hr⟩ (fun _ _ z=>nomatch z) (fun c r z=>by rcases z with _|_;exact hV i rfl) (fun _ z=>nomatch z);exact dP.step C I' P (fun _=>rfl) rfl rfl
 |_=>exact Bp hx
theorem yK(I:Inv W g σ s.heap){i:Nat}{c:List ag}{r:List D}(h:σ.n4 i=some (.list c r)):jf c=true:=I.sb i _ (iM.mp h)
theorem H4(I:Inv W g σ s.heap)(C:aS W g env ê s.heap){x y:ag}{v w:Value}{K:St->Prop}(rx:bG W g x v)(ry:bG W g y w)(h:zf x y σ K):
  ∃l items k,v=.ref l/\items.size<=sizeLine/\IsL s.heap l items k/\∃aF,K aF/\dP W env ê g σ s g aF {s with heap:=s.heap.update l (Obj.mapSeq fun xs=>xs.push w)}:=by
 have key:∀c r c' r',σ.obj x=some (.list c r)->c.length+r.length<ah->items c' r'=items c r++[y]->(∀i,x=.b i->jf c=true->jf c'=true)->(∀i,x=.t i->kB c'=true)->K (σ.put x (.list c' r'))->
   ∃l items k,v=.ref l/\items.size<=sizeLine/\IsL s.heap l items k/\∃aF,K aF/\dP W env ê g σ s g aF {s with heap:=s.heap.update l (Obj.mapSeq fun xs=>xs.push w)}:=fun c r c' r' e hb ei h1 h2 h=>by
  refine n8 (lA I rx e) fun l ws k nY hg hr=>?_;subst nY;have hz:ws.toArray.size<=sizeLine:=by
   have:=d7 hr;rw[ik]at this;rw[List.size_toArray,this];exact eI (Nat.le_of_lt hb)
  refine⟨l,_,k,rfl,hz,hg,_,h,oH (us:=ws++[w]) I C rx e rfl hg _ (by simp) ?_ (fun i z=>h1 i z ?_) h2⟩
  ·rw[ei];exact k6 hr ⟨ry,trivial⟩
  ·subst z;exact yK I e
 refine bc fun hn=>?_;have key:=fun c r c' r' e hb ei h1 h2 h=>hn (key c r c' r' e hb ei h1 h2 h);clear rx hn
 induction x using ag.casesOn with
 |b i=>
  refine qS h fun c r e h=>?_;obtain⟨hb,h⟩:=h
  induction c using List.casesOn with
  |nil=>
   clear ry
   induction y using ag.casesOn with
   |d y=>exact key [] r [] (y::r) e hb (oG _ _) (fun _ _ _=>rfl) (fun _ z=>nomatch z) h
   |t j=>exact nf h
   |_=>exact key [] r [_] r e hb (qE _ _ _) (fun _ _ _=>rfl) (fun _ z=>nomatch z) h
  |cons z c=>exact u7 h fun hn h=>key (z::c) r (y::z::c) r e hb (qE _ _ _) (fun _ _ q=>qF hn q) (fun _ z=>nomatch z) h
 |t i=>
  refine qS h fun c r e h=>?_;revert e;refine gY h fun h=>?_;clear ry;revert key;refine cN h fun y h key e=>?_;exact key [] r [] (y::r) e h.1 (oG _ _) (fun _ z _=>nomatch z) (fun _ _=>rfl) h.2
 |_=>exact nf h
theorem E1{k:Nat}(h:k<=ah):k+1<=sizeLine:=by
 have:ah+1<=sizeLine:=by decide+kernel
 exact aZ h this
theorem E2(us:List Value)(v:Value):(us++[v]).toArray.eraseIdxIfInBounds ((us++[v]).toArray.size-1)=us.toArray:=by
 unfold Array.eraseIdxIfInBounds;have h:(us++[v]).eraseIdx us.length=us:=by
  induction us with
  |nil=>rfl
  |cons u us ih=>simpa using ih
 simpa using h
theorem QX(I:Inv W g σ s.heap)(C:aS W g env ê s.heap){x:ag}{v:Value}{K:KV}(rx:bG W g x v)(h:Qn x σ K):
  ∃l items k y,v=.ref l/\items.size<=sizeLine/\IsL s.heap l items k/\items[items.size-1]?=some y/\aR W env ê g σ s K y {s with heap:=s.heap.update l (Obj.mapSeq fun xs=>xs.eraseIdxIfInBounds (items.size-1))}:=by
 revert rx;refine tI h fun i h=>qS h fun c r e h rx=>?_;have h:TN c r (fun x o=>K x (σ.lj i (some o))):=h
 ··refine n8 (lA I rx (show σ.obj (.b i)=_ from e)) fun l ws k nY hg hr=>?_;subst nY;have key:∀(c':List ag) (r':List D) (m:ag),c'.length+r'.length<=ah->items c r=items c' r'++[m]->jf c'=true->K m (σ.lj i (some (.list c' r')))->∃YM items k_1 y,Value.ref l=Value.ref YM/\items.size<=sizeLine/\IsL s.heap YM items k_1/\items[items.size-1]?=some y/\aR W env ê g σ s K y {s with heap:=s.heap.update YM (Obj.mapSeq fun xs=>xs.eraseIdxIfInBounds (items.size-1))}:=fun c' r' m hb ei hn hk=>by
    have hz:ws.toArray.size<=sizeLine:=by
     have:=d7 hr;rw[ei,List.length_append,ik]at this;rw[List.size_toArray,this];exact E1 hb
    rw[ei]at hr;refine n6 (wb hr) fun us y jc ry=>?_;subst jc;have je:cc W g (items c' r') us:=by
     have:∀(l:List ag) (us:List Value),cc W g (l++[m]) (us++[y])->cc W g l us:=by
      intro l
      induction l with
      |nil=>intro us h;induction us using List.casesOn with
       |nil=>trivial
       |cons u us=>rcases us with _|_<;>exact h.2.elim
      |cons x l ih=>intro us h;induction us using List.casesOn with
       |nil=>rcases l with _|_<;>exact h.2.elim
       |cons u us=>exact⟨h.1,ih us h.2⟩
     exact this _ _ hr
    refine⟨l,_,k,y,rfl,hz,hg,by simp,m,g,_,hk,ry,oH (us:=us) I C rx (show σ.obj (.b i)=_ from e) rfl hg _ (E2 us y) je (fun _ _=>hn) (fun _ z=>nomatch z)⟩
   have hn:=yK I e
   induction c using List.casesOn with
   |cons x c'=>
    have hn:(ke x&&jf c')=true:=hn;rw[Bool.and_eq_true]at hn;obtain⟨hb,h⟩:=dw h;exact key c' r x hb (qE _ _ _) hn.2 h
   |nil=>
    induction r using List.casesOn with
    |cons y r'=>
     obtain⟨hb,h⟩:=dw h;exact key [] r' (.d y) (by rw[List.length_nil,Nat.zero_add];exact hb) (oG _ _) rfl h
    |nil=>exact nf h
end
section
variable{W:Wd}{N:Nm}{G:Own}{A:Around}{s:Shared}{g:Gh}{σ:St}{env:Env}{ê:ak}{d n:Nat}
theorem qG{x:Str}{m:ag}{v:Value}(hv:bG W g m v):∀{l:List (Str×ag)} {gM:List (Str×Value)},gh W g l gM->(gM.map (·.1)).Nodup->gh W g (jb x m l) (stored gM x v)
 |[],[],_,_=>⟨rfl,hv,trivial⟩
 |p::l,q::gM,⟨e,r,rs⟩,hn=>by
  have pT:=List.nodup_cons.mp hn;unfold jb;cases z:fb p.1 x with
  |true=>
   have e':=bj.mp z;have hq:q.1=x:=e.trans e';unfold stored;have h1:(q::gM).any (fun kv=>kv.1=x)=true:=by simp[hq]
   refine az (if_pos h1) ?_;refine az (List.map_cons) ?_;refine az (if_pos hq) ?_;refine az (map_store_of_not_mem gM x v (hq▸pT.1)) ?_;exact⟨e,hv,rs⟩
  |false=>
   have e':=iX.mp z;have hq:¬q.1=x:=fun h=>e' (e.symm.trans h);have ih:=qG (x:=x) hv rs pT.2;have:stored (q::gM) x v=q::stored gM x v:=by
    unfold stored;by_cases h:gM.any (fun kv=>kv.1=x)=true
    ·rw[if_pos h,if_pos (by rw[List.any_cons,h,Bool.or_true]),List.map_cons,if_neg hq]
    ·have h2:¬(q::gM).any (fun kv=>kv.1=x)=true:=by rw[List.any_cons];simp[hq];simpa using h
     rw[if_neg h,if_neg h2];rfl
   refine az (this) ?_;exact⟨e,r,ih⟩
 |[],_::_,z,_=>z.elim
 |_::_,[],z,_=>z.elim
theorem Ai{x:Str}{v:Value}{gM:List (Str×Value)}(hn:(gM.map (·.1)).Nodup):((stored gM x v).map (·.1)).Nodup:=by
 unfold stored;split
 ·refine az (List.map_map) ?_;have:((fun x=>x.1)∘fun(kv:Str×Value)=>if kv.1=x then(kv.1,v)else kv)=fun kv=>kv.1:=by
   funext kv;simp only[Function.comp];split<;>rfl
  rw[this];exact hn
 ·rename_i h;rw[List.map_append,List.nodup_append];refine⟨hn,by simp,?_⟩;intro a ha b hb e;simp at hb;subst hb;refine bR (List.mem_map.mp ha) fun kv hk jc=>?_;subst jc;exact h (List.any_eq_true.mpr ⟨kv,hk,by simpa using e⟩)
theorem E4:∀{m:List (Str×ag)} {more:List (Str×Value)} {l:List (Str×ag)} {gM:List (Str×Value)},gh W g m more->gh W g l gM->(gM.map (·.1)).Nodup->gh W g (sz l m) (merged gM more):=by
 intro l0
 induction l0 with
 |nil=>
  intro l1;rcases l1 with _|⟨y0,nR⟩
  ·intro _ _ _ r _;exact r
  ·intro _ _ z _ _;exact z.elim
 |cons p m ih=>
  intro l1;rcases l1 with _|⟨q,more⟩
  ·intro _ _ z _ _;exact z.elim
  ·rintro l gM ⟨e,a,b⟩ r hn
   show gh W g (sz (jb p.1 p.2 l) m) (merged (stored gM q.1 q.2) more);refine az (e) ?_;exact ih b (qG a r hn) (Ai hn)
theorem rL:∀{m l:List (Str×ag)},kJ m=true->kJ l=true->kJ (sz l m)=true
 |[],_,_,h=>h
 |p::m,l,h,h'=>by
  have h:(ke p.2&&kJ m)=true:=h;rw[Bool.and_eq_true]at h;exact rL (m:=m) h.2 (ta h.1 h')
theorem td:∀{l:List (Str×ag)} {gM:List (Str×Value)},gh W g l gM->gM.length=l.length:=by
 intro l0
 induction l0 with
 |nil=>
  intro l1;rcases l1 with _|⟨y0,nR⟩
  ·intro _;exact rfl
  ·intro z;exact z.elim
 |cons x0 Jq ih=>
  intro l1;rcases l1 with _|⟨y0,nR⟩
  ·intro z;exact z.elim
  ·rintro ⟨_,_,r⟩
   exact congrArg (·+1) (ih r)
theorem rM{h:Heap}{a:Addr}{gM:List (Str×Value)}(hd:Heap.DictOf (strKind W.prog W.w) h a gM):(gM.map (·.1)).Nodup:=by
 obtain⟨_,_,_,_,_,_,_,_,hn⟩:=hd;exact hn
theorem oJ{h:Heap}{a:Addr}{gM:List (Str×Value)}(hd:Heap.DictOf (strKind W.prog W.w) h a gM):∃o,h.get? a=some o:=by
 obtain⟨o,_,_,ho,_⟩:=hd;exact⟨o,ho⟩
theorem H5(H:iJ W N G)(I:Inv W g σ s.heap)(C:aS W g env ê s.heap){x y:ag}{v w:Value}{K:St->Prop}(rx:bG W g x v)(ry:bG W g y w)(h:Qm x y σ K):
  ∃d o,v=.ref d/\w=.ref o/\d≠o/\(o==sysModules)=false/\∃gM more,s.heap.DictOf (strKind W.prog W.w) d gM/\s.heap.DictOf (strKind W.prog W.w) o more/\gM.length+more.length<=sizeLine/\
   ∀h',h'.DictOf (strKind W.prog W.w) d (merged gM more)->h'.DictOf (strKind W.prog W.w) o more->Heap.SameBut d s.heap h'->∃aF,K aF/\dP W env ê g σ s g aF {s with heap:=h'}:=by
 refine bc fun hn=>?_;revert rx ry;refine tI h fun i h=>tI h fun j h=>Hj h fun l e h=>Hj h fun m e' h rx ry=>hn ?_
 ··obtain⟨⟨lq,hlen⟩,h⟩:=h;refine DQ (la I e) fun p gM e1 o1 hd hr=>?_;refine bR (rx) fun p' e2 jc=>?_;subst jc;obtain rfl:=Option.some.inj (Option.some.inj (e1.symm.trans e2));refine DQ (la I e') fun q more f1 o2 Kv je=>?_;refine bR (ry) fun q' f2 jc=>?_;subst jc;obtain rfl:=Option.some.inj (Option.some.inj (f1.symm.trans f2));refine⟨p.1,q.1,rfl,rfl,fun z=>?_,Af H I o2 (fun z=>nomatch z),gM,more,hd,Kv,?_,fun h' k1 k2 sb=>?_⟩
   ·rw[z,o2]at o1;rcases o1 with _|_;exact lq rfl
   ·rw[td hr,td je];exact Nat.le_trans hlen (by decide+kernel)
   ·have⟨I',P⟩:=I.M1 (q:=p.1) (h':=h') (o:=.dict (sz l m)) e1 o1 (fun b o hb e=>sb.extBut b o hb e) (oJ k1) ⟨o1,_,k1,E4 je hr (rM hd)⟩ (rL (I.sb _ _ (iM.mp e')) (I.sb _ _ (iM.mp e)));exact⟨_,h,dP.step C I' P (fun _=>rfl) rfl rfl⟩
theorem Aj(prog:Program)(w:World)(l b:Addr):MeetsIn prog w (Builtin.«list.extend» ⟨[.ref l,.ref b],[]⟩) (fun _ R s=>∃items jS n n2 o,IsL s.heap l items n/\s.heap.get? b=some o/\o.cls=.type "list" /\o.data=.seq jS n2/\items.size+jS.size<=sizeLine/\
  R (.ok (.ret .none)) {s with heap:=s.heap.update l (Obj.mapSeq fun xs=>xs++jS)}):=
 .of_wp fun A R s ⟨items,jS,n,n2,o,hl,ho,hc,hd,hz,h⟩=>by
  have hz1:items.size<=sizeLine:=Nat.le_trans (Nat.le_add_right _ _) hz;have QY:(items++jS).size<=sizeLine+1:=by rw[Array.size_append];exact ai hz
  have f4:Builtin.List.listTooLong (items.size+jS.size)=false:=by
   unfold Builtin.List.listTooLong;exact decide_eq_false (by omega)
  show wpAny _ _ (Builtin.List.listExtendWith (.ref l) (.ref b) .none) _ _ s;unfold Builtin.List.listExtendWith;refine wpAny_bind (wpAny_typeOf (s:=s) (T:= "list") ⟨o,ho,hc⟩ ?_);have h1:(Builtin.List.listSameRef (.ref l) (.ref b)||Value.type "list" ==Value.type "list" ||Value.type "list" ==Value.type "tuple")=true:=by simp
  simp only[h1,if_true];refine wpAny_bind ?_;unfold Builtin.List.listItems;refine wpAny_bind (wpAny_seqItems ho hd (wpAny_pure ?_));refine wpAny_bind ?_;refine wpAny_bind (wpAny_seqItems hl rfl (wpAny_pure ?_));rw[f4,Bool.and_false];show wpAny _ _ (updateSeq l (·++jS)>>= fun _=>ret .none) _ _ s;refine wpAny_bind (wpAny_updateSeq hl rfl ?_ (hz:=hz1) (_hz':=QY));exact wpAny_pure ⟨_,rfl,h⟩
theorem H6(l r:List D):items [] (l.reverse++r)=items [] r++l.map ag.d:=by
 unfold items;rw[List.nil_append,List.nil_append,List.map_append,List.reverse_append,List.map_reverse,List.reverse_reverse]
theorem H7(I:Inv W g σ s.heap)(C:aS W g env ê s.heap){x y:ag}{v w:Value}{K:St->Prop}(rx:bG W g x v)(ry:bG W g y w)(h:zg x y σ K):
  ∃l b,v=.ref l/\w=.ref b/\∃items jS n n2 o,IsL s.heap l items n/\s.heap.get? b=some o/\o.cls=.type "list" /\o.data=.seq jS n2/\items.size+jS.size<=sizeLine/\
  ∃aF,K aF/\dP W env ê g σ s g aF {s with heap:=s.heap.update l (Obj.mapSeq fun xs=>xs++jS)}:=by
 refine bc fun hn=>?_;revert rx ry;refine Jz h fun i h=>cN h fun x h=>JC h fun m h=>qS h fun c r e h=>?_;revert e;refine gY h fun h e rx ry=>hn ?_
 ··obtain⟨hb,h⟩:=h;refine n8 (lA I rx (show σ.obj (.t i)=_ from e)) fun l ws k nY hg hr=>?_;subst nY;refine cG ry fun p vs as hp r1=>?_;refine bc fun bf=>?_;obtain⟨o,ho,hc,n2,hd⟩:=bZ I.gP hp;refine bf ?_;have e1:=d7 hr;rw[ik]at e1;refine⟨l,p,rfl,rfl,_,_,k,n2,o,hg,ho,hc,hd,?_,_,h,oH (us:=ws++vs) I C rx (show σ.obj (.t i)=_ from e) rfl hg _ (by simp) ?_ (fun _ z=>nomatch z) (fun _ _=>rfl)⟩
   ·rw[List.size_toArray,List.size_toArray,e1,readsAll_len r1,List.length_nil,Nat.zero_add];exact eI (Nat.le_of_lt hb)
   ·rw[H6];exact k6 hr (vj r1)
theorem yk{prog:Program}{w:World}{E:Value->Shared->Prop}{l:Addr}{items:Array Value}{n:Nat}{k:Int}{t:Tok}{v:Value}{Q:Unit->Shared->Prop}(hl:IsL s.heap l items n)
  (h0:0<=k) (UM:k<2 ^ 63) (hn:k<items.size) (hQ:Q () {s with heap:=s.heap.update l (Obj.mapSeq (·.setIfInBounds k.toNat v))}):
  wpAny (model prog w) A (setItem (.ref l) (.int k t) v) Q E s:=by
 have xG:=hl.isList;unfold setItem
 try with_reducible refine wpAny_holding ?_
 first|refine wpAny_bind (wpAny_pure ?_)|skip
 refine wpAny_bind (wpAny_sequenceKey xG.typeIs (by decide) ?_);refine wpAny_bind (wpAny_callSpecial?_slot (name:=Str.ofString "__setitem__") xG.typeIs slot_list_setitem
  (wpAny_call_entry slot_list_setitem xG.typeIs entry_list_setitem ?_ (args_list_setitem _ _ _)))
 show wpAny _ _ (Builtin.List.listSubscript? (.int k t)>>= _) _ _ s;refine wpAny_bind (wpAny_listSubscript_int (fitsIndex_of h0 UM) ?_);clear UM;obtain⟨j,rfl⟩:=Int.eq_ofNat_of_zero_le h0;have hj:j<items.size:=by omega
 have W4:items[j]?=some items[j]:=Array.getElem?_eq_getElem hj;show wpAny _ _ ((seqItemAt l j>>= fun r=>pure (r.map (j,·)))>>= _) _ _ s;refine wpAny_bind (wpAny_bind (wpAny_seqItemAt hl rfl (wpAny_pure ?_)));refine az (W4) ?_;show wpAny _ _ (setSeqItemAt l j v>>= _) _ _ s;refine wpAny_bind (wpAny_setSeqItemAt hl rfl ?_)
 first
  |exact wpAny_bind (wpAny_pure (wpAny_pure ⟨.none,rfl,wpAny_pure hQ⟩))
  |exact wpAny_pure ⟨.none,rfl,wpAny_pure hQ⟩
noncomputable def mh(items:Array Value):Prop:=Builtin.List.listTooLong (items.size+(#[]:Array Value).size)=false
theorem Cx{prog:Program}{w:World}{E:Value->Shared->Prop}{l sl e:Addr}{items:Array Value}{n:Nat}{a:Nat}{u:Tok}{Q:Unit->Shared->Prop}(hl:IsL s.heap l items n)
  (hs:s.heap.IsSliceOf sl (.int a u) .none .none) (he:s.heap.IsList e #[]) (qQ:l≠e) (ha:a<=items.size) (hz:items.size<=sizeLine)
  (hQ:∀f:Array Value->Array Value,f items=items.extract 0 a->Q () {s with heap:=s.heap.update l (Obj.mapSeq f)}):
  wpAny (model prog w) A (setItem (.ref l) (.ref sl) (.ref e)) Q E s:=by
 refine bc fun bf=>?_;obtain⟨oe,hoe,hce,ne,hde⟩:=id he;refine bf ?_;have xG:=hl.isList;refine ja (id hs) fun os Ah W2 Pm=>?_;have W3:s.TypeIs (.ref sl) "slice" :=⟨os,Ah,W2⟩;unfold setItem
 try with_reducible refine wpAny_holding ?_
 first|refine wpAny_bind (wpAny_pure ?_)|skip
 refine wpAny_bind (wpAny_sequenceKey xG.typeIs (by decide) ?_);refine wpAny_bind (wpAny_callSpecial?_slot (name:=Str.ofString "__setitem__") xG.typeIs slot_list_setitem
  (wpAny_call_entry slot_list_setitem xG.typeIs entry_list_setitem ?_ (args_list_setitem _ _ _)))
 show wpAny _ _ (Builtin.List.listSubscript? (.ref sl)>>= _) _ _ s;refine wpAny_bind ?_;unfold Builtin.List.listSubscript?;refine wpAny_bind (wpAny_specialOf W3 slice_no_index ?_);simp only[Option.isNone_none,if_true];refine wpAny_pure ?_;show wpAny _ _ (typeOf (.ref sl)>>= _) _ _ s;refine wpAny_bind (wpAny_typeOf W3 ?_);refine az (if_neg (by decide)) ?_;rw[listSliceParts_eq];refine wpAny_bind (wpAny_bind (wpAny_field Ah Pm (x:=.none) rfl (wpAny_bind (wpAny_listPart .none ?_))));refine az (if_neg (show ¬((rawPart none==rawInt 0)=true)from Bool.false_ne_true)) ?_;refine wpAny_bind (wpAny_field Ah Pm (x:=.int a u) rfl (wpAny_bind (wpAny_listPart (.int _ _) ?_)));refine wpAny_bind (wpAny_field Ah Pm (x:=.none) rfl (wpAny_bind (wpAny_listPart .none (wpAny_pure ?_))));have UN:Builtin.List.listSameRef (.ref l) (.ref e)=false:=by
  unfold Builtin.List.listSameRef
  simpa using qQ
 have hb:sliceBounds (some (a:Int)) none none items.size=((a:Int),(items.size:Int),1):=by
  have i1:¬((a:Int)<0):=Int.not_lt.mpr (Int.natCast_nonneg a);have i2:min (a:Int) (items.size:Int)=a:=Int.min_eq_left (Int.ofNat_le.mpr ha);have i3:max (0:Int) (a:Int)=a:=Int.max_eq_right (Int.natCast_nonneg a);unfold sliceBounds;simp[i1,i2,i3]
 have e2:(max (a:Int) (items.size:Int)).toNat=items.size:=by
  rw[Int.max_eq_right (Int.ofNat_le.mpr ha)];exact Int.toNat_natCast _
 have hf:mh items:=by
  unfold mh Builtin.List.listTooLong;refine decide_eq_false (Nat.not_lt.mpr ?_);exact hz
 simp only[UN,Bool.false_eq_true,if_false];refine wpAny_bind ?_;unfold Builtin.List.listAllItems;refine wpAny_bind (wpAny_typeOf he.typeIs ?_);simp only[beq_self_eq_true,Bool.true_or,if_true];unfold Builtin.List.listItems;refine wpAny_bind (wpAny_seqItems hoe hde (wpAny_pure ?_));refine wpAny_bind ?_;refine wpAny_bind (wpAny_seqItems hl rfl (wpAny_pure ?_));refine wpAny_bind (wpAny_of_eq (sliceIndices_raw (some (a:Int)) none none items.size (by simp)) ?_);refine az (hb) ?_;have h1:((1:Int)==1)=true:=rfl;simp only[h1,if_true];refine wpAny_bind (wpAny_rule ?_);unfold mh at hf;refine az (hf) ?_;have QY:(items.extract 0 (a:Int).toNat++#[]++items.extract (max (a:Int) (items.size:Int)).toNat).size<=sizeLine+1:=by
  rw[e2,Array.size_append,Array.size_append,Array.size_extract,Array.size_extract,Nat.min_self,Nat.sub_self,Nat.sub_zero,Int.toNat_natCast,Nat.min_eq_left ha];exact Nat.le_succ_of_le (Nat.le_trans ha hz)
 show wpAny _ _ (updateSeq l (fun xs=>xs.extract 0 (a:Int).toNat++#[]++xs.extract (max (a:Int) (items.size:Int)).toNat)>>= fun _=>_) _ _ s;refine wpAny_bind (wpAny_updateSeq hl rfl ?_ (hz:=hz) (_hz':=QY));refine wpAny_bind (wpAny_letGo ?_);refine wpAny_pure ⟨.none,rfl,wpAny_pure (hQ _ ?_)⟩;refine az (e2) ?_;simp
theorem Ak(ws:List Value)(a:Nat):ws.toArray.extract 0 a=(ws.take a).toArray:=by simp
theorem Cy:∀{l:List ag} {ws:List Value} (k:Nat),cc W g l ws->cc W g (l.take k) (ws.take k)
 |_,_,0,_=>trivial
 |[],[],_+1,_=>trivial
 |_::_,_::_,k+1,⟨a,b⟩=>⟨a,Cy k b⟩
 |[],_::_,_+1,z=>z.elim
 |_::_,[],_+1,z=>z.elim
theorem Cz:∀{l:List ag} {ws:List Value} (k:Nat),cc W g l ws->cc W g (l.drop k) (ws.drop k)
 |_,_,0,h=>h
 |[],[],_+1,_=>trivial
 |_::_,_::_,k+1,⟨a,b⟩=>Cz k b
 |[],_::_,_+1,z=>z.elim
 |_::_,[],_+1,z=>z.elim
theorem E5(r:List D)(m:Nat):items [] (r.drop m)=(items [] r).take (r.length-m):=by
 unfold items;rw[List.nil_append,List.nil_append,List.map_drop,List.reverse_drop,List.length_map]
theorem E6(r:List D)(m:Nat):items [] (r.take m)=(items [] r).drop (r.length-m):=by
 unfold items;rw[List.nil_append,List.nil_append,List.map_take,List.reverse_take,List.length_map]
theorem Gx{m:ag}{v:Value}(hv:bG W g m v):∀{l:List ag} {ws:List Value} (k:Nat),cc W g l ws->cc W g (setAt l k m) (ws.set k v)
 |[],[],_,_=>trivial
 |_::_,_::_,0,⟨_,b⟩=>⟨hv,b⟩
 |_::_,_::_,k+1,⟨a,b⟩=>⟨a,Gx hv k b⟩
 |[],_::_,_,z=>z.elim
 |_::_,[],_,z=>z.elim
theorem we{α:Type}:∀(l:List α) (k:Nat) (x:α),setAt l k x=l.set k x
 |[],_,_=>rfl
 |_::_,0,_=>rfl
 |x::l,k+1,y=>congrArg (x::·) (we l k y)
theorem Nu{α:Type}(l:List α)(m:Nat)(y:α)(h:m<l.length):(l.set (l.length-1-m) y).reverse=l.reverse.set m y:=by
 apply List.ext_getElem
 ·simp
 ·intro i h1 h2;have hi:i<l.length:=by simpa using h1
  rw[List.getElem_reverse,List.getElem_set,List.getElem_set,List.getElem_reverse];simp only[List.length_set];by_cases e:m=i
  ·subst e;simp
  ·rw[if_neg e,if_neg (F9 h hi e)]
theorem H8(r:List D)(m:Nat)(y:D)(h:m<r.length):items [] (setAt r (r.length-1-m) y)=setAt (items [] r) m (.d y):=by
 unfold items;rw[List.nil_append,List.nil_append,we,we,List.map_set];have:=Nu (r.map ag.d) m (.d y) (by simpa using h);rw[List.length_map]at this;exact this
theorem E7(H:iJ W N G)(I:Inv W g σ s.heap)(C:aS W g env ê s.heap){x y m:ag}{v w u:Value}{K:St->Prop}(rx:bG W g x v)(ry:bG W g y w)(rm:bG W g m u)(h:Bu x y m σ K):
  wpAny (model W.prog W.w) A (setItem v w u) (UE W env ê g σ s K) NE s:=by
 refine bc fun hn=>?_;revert rx ry rm;refine tI h fun i h=>cN h fun z h=>?_
 induction z using PyData.casesOn with
 |str xx=>
  refine Hj h fun l e h=>cN h fun yy h rx ry rm=>hn ?_;refine bx ry fun t=>?_;have hb:=h.1;have h:=h.2;refine DQ (la I e) fun p gM e1 o1 hd hr=>?_;refine bR (rx) fun p' e2 jc=>?_;subst jc;obtain rfl:=Option.some.inj (Option.some.inj (e1.symm.trans e2));refine wpAny_setItem_pairs (tU _ _ _ _) hd (fun h' k1 sb=>?_) (by rw[td hr];exact Nat.le_trans hb (by decide+kernel));have⟨I',P⟩:=I.M1 (q:=p.1) (h':=h') (o:=.dict (jb xx (.d yy) l)) e1 o1 (fun b o hb e=>sb.extBut b o hb e) (oJ k1) ⟨o1,_,k1,qG rm hr (rM hd)⟩ (ta rfl (I.sb _ _ (iM.mp e)));exact⟨g,_,h,dP.step C I' P (fun _=>rfl) rfl rfl⟩
 |int j=>
  refine JD h fun j h=>qS h fun c r e h=>?_;revert e;refine gY h fun h=>cN h fun yy h e rx ry rm=>hn ?_;refine aK ry fun t=>?_;obtain⟨⟨p9,hb⟩,h⟩:=h;refine n8 (lA I rx (show σ.obj (.b i)=_ from e)) fun l ws k nY hg hr=>?_;subst nY;have e1:=d7 hr;rw[ik,List.length_nil,Nat.zero_add]at e1;refine yk hg (Int.natCast_nonneg j) (jr (aZ p9 hb)) (by rw[List.size_toArray,e1];exact Int.ofNat_lt.mpr p9) ?_;refine⟨g,_,h,oH (us:=ws.set j u) I C rx (show σ.obj (.b i)=_ from e) rfl hg _ (by simp) ?_ (fun _ _=>rfl) (fun _ z=>nomatch z)⟩;refine az (H8 r j yy p9) ?_;exact Gx rm j hr
 |_=>exact nf h
end
section
variable{W:Wd}{N:Nm}{G:Own}{A:Around}{s:Shared}{g cD:Gh}{σ ab:St}{env:Env}{ê:ak}{d n:Nat}{h h' jE:Heap}
noncomputable def E8(h:Heap)(a:Nat):Heap:=⟨(h.objs.toList.set a vh).toArray,h.life⟩
theorem kn(h:Heap)(a:Nat)(b:Nat):(E8 h a).get? b=if b=a then none else h.get? b:=by
 apply Option.ext;intro o';rw[Heap.get?_some_iff];show((h.objs.toList.set a vh).toArray[b]?=some o'/\_)↔_;refine az (List.getElem?_toArray) ?_;refine az (List.getElem?_set) ?_;by_cases hb:a=b
 ·subst hb;refine az (if_pos rfl) ?_;refine az (if_pos rfl) ?_;constructor
  ·rintro ⟨e,f⟩
   split at e
   ·rcases e with _|_;rcases f with _|_
   ·rcases e with _|_
  ·intro e;rcases e with _|_
 ·have Bx:¬b=a:=fun e=>hb e.symm;rw[if_neg hb,if_neg Bx,Heap.get?_some_iff,Array.getElem?_toList]
theorem Inv.drop(I:Inv W g σ h){a:Addr}(hO:g.O a=.no)(hB:g.B.get? a=none)(k:∀b o,b≠a->h.get? b=some o->h'.get? b=some o)(hn:∀b,h'.get? b=none->b≠a->h.get? b=none):Inv W g σ h':=by
 have lift:∀{ng:Tag} {o:aL} {p:Addr×Addr},ng≠.no->dr W g h ng o p->dr W g h' ng o p:=fun ne c=>
  c.rm (fun _ _ r=>r) id id (fun z o=>k _ o fun e=>ne (by rw[<-z,e,hO])) (fun z o=>k _ o fun e=>ne (by rw[<-z,e,hO]))
 refine⟨I.fT,fun b o e=>k _ _ (fun z=>?_) (I.gP b o e),I.lO,fun b e=>?_,I.qV,I.qm,fun i o e=>?_,I.cn,fun i o e=>?_,I.sb,I.DZ,I.D1⟩
 ·rw[z,hB]at e;rcases e with _|_
 ·by_cases z:b=a
  ·rw[z];exact hO
  ·exact I.live _ (hn b e z)
 ·refine bR (I.cb i o e) fun p e1 c=>?_;exact⟨p,e1,lift (fun z=>nomatch z) c⟩
 ·refine ja (I.ct i o e) fun a e1 c z=>?_;exact⟨a,e1,lift (fun z=>nomatch z) c,z⟩
theorem gf.drop(P:gf g σ h cD ab jE){a:Addr}(hn:h.get? a=none)(k:∀b o,b≠a->jE.get? b=some o->h'.get? b=some o):gf g σ h cD ab h':=by
 refine⟨P.bm,fun b o e f=>?_,fun b o e f=>?_,P.lb,P.lt,P.gm⟩
 ·refine n7 (P.fo b o e f) fun x y z=>?_;exact⟨k _ _ (fun q=>by rw[q,hn]at e;rcases e with _|_) x,y,z⟩
 ·obtain⟨⟨o',x⟩,y⟩:=P.co b o e f;exact⟨⟨o',k _ _ (fun q=>by rw[q,hn]at e;rcases e with _|_) x⟩,y⟩
theorem aS.drop(C:aS W g env ê h){a:Addr}(hO:g.O a=.no)(k:∀b o,b≠a->h.get? b=some o->h'.get? b=some o):aS W g env ê h':=by
 have kl:∀o,h.get? env.locals=some o->h'.get? env.locals=some o:=fun o e=>k _ _ (fun q=>by have:=C.fr;rw[q,hO]at this;rcases this with _|_) e;have kc:∀x c,env.cells.lookup x=some c->∀o,h.get? c=some o->h'.get? c=some o:=fun x c q o e=>k _ _ (fun q'=>by have:=(C.cells x c q).1;rw[q',hO]at this;rcases this with _|_) e;refine⟨C.kind,C.fr,?_,fun x m e=>?_,fun x c e=>?_,C.inj,C.glob,C.all⟩
 ·obtain⟨m,hm⟩:=C.ns;exact⟨m,Ns.at hm kl⟩
 ·refine bR (C.vars x m e) fun v hh r=>?_;refine⟨v,?_,r⟩;rcases hh with⟨z,m,n,q⟩|⟨z,c,q,ic⟩
  ·exact .inl ⟨z,m,Ns.at n kl,q⟩
  ·exact .inr ⟨z,c,q,IsCell.at ic (kc _ _ q)⟩
 ·obtain⟨z,y,vo,ic⟩:=C.cells x c e;exact⟨z,y,vo,IsCell.at ic (kc _ _ e)⟩
theorem RM.refl:RM W g g:=fun _ _ r=>r
set_option tactic.hygienic true in
theorem CA:∀{vs:List ag} {ds:List D},qU vs=some ds->vs=ds.map ag.d:=by
 intro l0
 induction l0 with
 |nil=>
  intro _ e;cases e;rfl
 |cons v vs ih=>
  intro ds e
  induction v using ag.casesOn with
  |d x=>
   unfold qU at e;split at e
   ·rename_i r q;cases e;rw[ih q];rfl
   ·cases e
  |_=>cases e
set_option tactic.hygienic true in
theorem yL(vs:List ag):∃c r,Jp vs=.list c r/\items c r=vs:=by
 unfold Jp;split
 ·rename_i ds e;exact⟨_,_,rfl,by rw[jL,List.reverse_reverse,<-CA e]⟩
 ·exact⟨_,_,rfl,by unfold items;rw[List.map_nil,List.append_nil,List.reverse_reverse]⟩
theorem js:∀{l:List Nat} {i:Nat},pk l σ=some i->aq σ.base i=some none:=by
 intro l0
 induction l0 with
 |nil=>
  intro _ e;cases e
 |cons j l ih=>
  intro i e;unfold pk at e;split at e
  ·rename_i q;rcases e with _|_;exact q
  ·exact ih e
theorem Al(I:Inv W g σ h)(C:aS W g env ê h){a:Addr}(hn:h.get? a=none)(k:∀b o,h.get? b=some o->h'.get? b=some o){o:aL}{ob:Obj}(hl:h'.get? a=some ob)(hf:ob.isFreed=false)
  (hc:∀g',RM W g g'->∀tag,g'.O a=tag->dr W g' h' tag o (a,a)) (hi:∀k l,o≠.inst k l) {p:Place} {K:KV} (q:pS p o ê σ K):
  ∃m g' aF,K m aF/\bG W g' m (.ref a)/\Inv W g' aF h'/\aS W g' env ê h'/\gf g σ h g' aF h':=by
 refine bc fun bf=>?_;have fin:∀{m g' aF},K m aF->bG W g' m (.ref a)->Inv W g' aF h'->aS W g' env ê h'->gf g σ h g' aF h'->False:=fun a b c d e=>bf ⟨_,_,_,a,b,c,d,e⟩;clear bf
 induction p using Place.casesOn with
 |fz=>
  clear hi;revert hc;refine TF q fun c r q=>gY q fun q hc=>?_;obtain⟨_,ws,n,hg,hr⟩:=hc g RM.refl _ rfl;have hg:h'.get? a=some (eA ws n):=hg;rw[jL]at hr;obtain⟨as,ra⟩:=gR hr;have⟨I',P⟩:=I.MY k hn hg rfl;have hB:g.B.get? a=none:=by
   cases z:g.B.get? a with
   |none=>rfl
   |some o=>rw[I.gP _ _ z]at hn;rcases hn with _|_
  exact fin q ⟨_,.list (fU rfl) rfl rfl (ReadsAll.keeps (fi rfl hB) (by simpa using ra))⟩ I' (C.post P fun _=>rfl) P
 |Be=>
  have q:TM o fun o=>K (.t σ.temps.length) {σ with temps:=σ.temps++[o]}:=q
  induction o using aL.casesOn with
  |list c r=>
   refine u7 q fun hv q=>?_;obtain⟨g',rm,e,I',P⟩:=I.Be (o:=.list c r) k hn ⟨_,hl⟩ (fun g' rm z=>hc g' rm _ z) (fun _ _ z=>nomatch z) (fun c r z=>by rcases z with _|_;exact hv) (fun _ z=>nomatch z);exact fin q ⟨a,e,rfl⟩ I' (C.post P fun _=>rfl) P
  |dict l=>
   refine lN q fun l' hv q=>?_;obtain⟨g',rm,e,I',P⟩:=I.Be (o:=.dict l) k hn ⟨_,hl⟩ (fun g' rm z=>hc g' rm _ z) (fun _ _ z=>nomatch z) (fun c r z=>nomatch z) (fun l z=>by rcases z with _|_;exact⟨_,hv⟩);exact fin q ⟨a,e,rfl⟩ I' (C.post P fun _=>rfl) P
  |_=>exact nf q
 |base l=>
  refine lN q fun i CB q=>u7 q fun hT q=>?_;cases hw:Bg i with
  |false=>
   rw[hw]at q;refine zb (I.n4 (o:=o) (p:=(a,a)) (γ:=σ.gen) k (js CB) hn hn ⟨_,hl⟩ ⟨_,hl⟩ (fun g' rm z _=>hc g' rm _ z) hT (Nat.le_refl _)) fun g' rm e I' P=>?_;exact fin q ⟨_,e,rfl⟩ I' (C.post P fun _=>rfl) P
  |true=>
   rw[hw]at q;refine Bq q fun hv q=>?_;refine zb (I.n4 (o:=o) (p:=(a,a)) (γ:=σ.gen+1) k (js CB) hn hn ⟨_,hl⟩ ⟨_,hl⟩ (fun g' rm z _=>hc g' rm _ z) hT (Nat.le_succ _)) fun g' rm e I' P=>?_;exact fin q ⟨_,e,rfl⟩ I' (C.post P (fun z=>by rw[hv]at z;rcases z with _|_)) P
theorem Nv(I:Inv W g σ s.heap)(C:aS W g env ê s.heap){vs:List ag}{ws:List Value}(r:cc W g vs ws){p:Place}{K:KV}(q:pS p (Jp vs) ê σ K):
  aR W env ê g σ s K (.ref s.heap.objs.size) {s with heap:=s.heap.push {cls:=.type "list",data:=.seq ws.toArray}}:=by
 refine n6 (yL vs) fun c r' e ei=>?_;rw[e]at q;have hg:(s.heap.push {cls:=.type "list",data:=.seq ws.toArray}).get? s.heap.objs.size=some (eA ws 0):=Heap.get?_push_size _ rfl;refine bc fun bf=>?_;obtain⟨m,g',aF,hk,rm,I',C',P⟩:=Al (o:=.list c r') I C (cY _) (fun b o e=>Heap.get?_push_of_some _ e) hg rfl (fun g' rm tag z=>⟨z,ws,0,hg,by rw[ei];exact r.rm rm⟩) (fun _ _ z=>nomatch z) q;refine bf ?_;exact⟨m,g',aF,hk,rm,I',C',P,rfl,rfl⟩
theorem yM(I:Inv W g σ s.heap)(C:aS W g env ê s.heap){x:ag}{v:Value}{K:KV}(rx:bG W g x v)(q:fz x σ K):
  ∃m g' aF,K m aF/\bG W g' m v/\ke m=true/\dP W env ê g σ s g' aF s:=by
 induction x using ag.casesOn with
 |t i=>
  refine bc fun hn=>?_;refine lN q fun o e q=>?_
  induction o using aL.casesOn with
  |list c r=>
   revert e;refine gY q fun q e=>hn ?_;refine ja (I.ct i _ e) fun a e1 c _=>?_;refine bR (rx) fun a' e2 jc=>?_;subst jc;obtain rfl:=Option.some.inj (e1.symm.trans e2);refine Xv (I.fzt e e1) fun g' rm rd _ _ I' P=>?_;exact⟨_,g',_,q,rd,rfl,dP.step C I' P (fun _=>rfl) rfl rfl⟩
  |yu x=>
   refine hn ?_;refine ja (I.ct i _ e) fun a e1 c _=>?_;refine bR (rx) fun a' e2 jc=>?_;subst jc;obtain rfl:=Option.some.inj (e1.symm.trans e2);exact⟨_,g,σ,q,c,rfl,dP.refl I C⟩
  |_=>exact nf q
 |_=>exact⟨_,g,σ,q,rx,rfl,dP.refl I C⟩
theorem rN(I:Inv W g σ h){x:ag}{v:Value}(rx:bG W g x v):bG W g (res σ x) v:=by
 induction x using ag.casesOn with
 |t i=>
  cases e:aq σ.temps i with
  |none=>unfold res;dsimp only;rw[e];exact rx
  |some o=>
   induction o using aL.casesOn with
   |yu y=>
    unfold res;dsimp only;rw[e];refine ja (I.ct i _ e) fun a e1 c _=>?_;refine bR (rx) fun a' e2 jc=>?_;subst jc;obtain rfl:=Option.some.inj (e1.symm.trans e2);exact c
   |_=>unfold res;dsimp only;rw[e];exact rx
 |_=>exact rx
end
section
variable{W:Wd}{N:Nm}{G:Own}{A:Around}{s:Shared}{g cD:Gh}{σ ab:St}{env:Env}{ê:ak}{d n:Nat}{h h' jE:Heap}
theorem ko{B:Heap}{a b:Addr}{ob:Obj}(hf:ob.isFreed=false)(hb:b≠a):(jF B a ob).get? b=B.get? b:=by
 rw[gx _ _ _ hf,if_neg hb]
theorem QZ(I:Inv W g σ s.heap)(C:aS W g env ê s.heap){x:ag}{v:Value}{K:KV}(rx:bG W g x v)(q:Qk x ê σ K):
  aR W env ê g σ s K v s:=by
 refine bc fun bf=>?_;revert rx;refine tI q fun i q=>u7 q fun hv q=>Bq q fun hh q=>u7 q fun MG q=>lN q fun o e q=>?_
 ··have W5:∀{p:Addr},g.O p=.b i->g.B.get? p=none:=fun{p} e=>by
    cases z:g.B.get? p with
    |none=>rfl
    |some o=>rw[I.lO _ _ z]at e;rcases e with _|_
   induction o using aL.casesOn with
   |list c r=>
    revert e;refine gY q fun q e rx=>bf ?_;refine lY (ij I e) fun p ws k e1 o1 hg hr=>?_;refine bR (rx) fun p' e2 jc=>?_;subst jc;obtain rfl:=Option.some.inj (Option.some.inj (e1.symm.trans e2));rw[jL]at hr;obtain⟨as,ra⟩:=gR hr;have⟨I',P⟩:=I.fzb (qa:=p.1) (qb:=p.1) (B':=jF g.B p.1 (eA ws k)) hv (iM.mp e) e1 MG (fi rfl (W5 o1)) (fun b hb _=>ko rfl hb) (fun b ob z=>by
     rw[gx _ _ _ rfl]at z;by_cases hb:b=p.1
     ·rw[if_pos hb]at z;rcases z with _|_;rw[hb];exact hg
     ·rw[if_neg hb]at z;exact I.gP _ _ z) o1 o1
    exact⟨_,_,_,q,⟨_,.list (fU rfl) rfl rfl (ReadsAll.keeps (fi rfl (W5 o1)) (by simpa using ra))⟩,dP.step C I' P (fun z=>by rw[hh]at z;rcases z with _|_) rfl rfl⟩
   |inst k l=>
    refine lN q fun l' e' q rx=>bf ?_
    ·obtain⟨p,e1,o1,o2,ne,h1,es,m,h2,hf⟩:=I.cb i _ (iM.mp e);have o1:g.O p.1=.b i:=o1;have o2:g.O p.2=.b i:=o2;have h1:s.heap.get? p.1=some (instObj (W.ca k) p.2):=h1;have h2:s.heap.get? p.2=some (dictOf es m):=h2;refine bR (rx) fun p' e2 jc=>?_;subst jc;obtain rfl:=Option.some.inj (Option.some.inj (e1.symm.trans e2));have x1:∀b ob,g.B.get? b=some ob->(jF g.B p.1 (instObj (W.ca k) p.2)).get? b=some ob:=fi rfl (W5 o1);have n2:(jF g.B p.1 (instObj (W.ca k) p.2)).get? p.2=none:=by rw[ko rfl (Ne.symm ne)];exact W5 o2
     have x2:∀b ob,g.B.get? b=some ob->(jF (jF g.B p.1 (instObj (W.ca k) p.2)) p.2 (dictOf es m)).get? b=some ob:=fun b ob z=>fi rfl n2 b ob (x1 b ob z);have⟨I',P⟩:=I.fzb (qa:=p.1) (qb:=p.2) (B':=jF (jF g.B p.1 (instObj (W.ca k) p.2)) p.2 (dictOf es m)) hv (iM.mp e) e1 MG x2 (fun b hb Bx=>by rw[ko rfl Bx,ko rfl hb]) (fun b ob z=>by
      rw[gx _ _ _ rfl]at z;by_cases hb:b=p.2
      ·rw[if_pos hb]at z;rcases z with _|_;rw[hb];exact h2
      ·rw[if_neg hb,gx _ _ _ rfl]at z;by_cases hb:b=p.1
       ·rw[if_pos hb]at z;rcases z with _|_;rw[hb];exact h1
       ·rw[if_neg hb]at z;exact I.gP _ _ z) o1 o2
     refine⟨_,_,_,q,⟨p.1,p.2,es,m,rfl,?_,?_,?_⟩,dP.step C I' P (fun z=>by rw[hh]at z;rcases z with _|_) rfl rfl⟩
     ·show(jF _ _ _).get? _=_;rw[ko rfl ne];exact fU rfl
     ·exact fU rfl
     ·exact(M4 e' hf).mono x2
   |_=>exact nf q
theorem oK:∀{l:List Str},distinct l=true->l.Nodup:=by
 intro l0
 induction l0 with
 |nil=>
  intro _;exact List.nodup_nil
 |cons x l ih=>
  intro h;have h:(l.all (fun y=> !fb x y)&&distinct l)=true:=h;rw[Bool.and_eq_true,List.all_eq_true]at h;refine List.nodup_cons.mpr ⟨fun hm=>?_,ih h.2⟩;have:=h.1 x hm;rw[Bw]at this;rcases this with _|_
noncomputable def rO(vs:List (Value×Value)):List Str->List Value->Prop
 |[],[]=>vs=[]
 |k::ks,w::ws=>∃t rest,vs=(.str k t,w)::rest/\rO rest ks ws
 |_,_=>False
theorem tV{prog:Program}{w:World}:∀{ks:List Str} {ws:List Value} {vs:List (Value×Value)},rO vs ks ws->Carries (strKind prog w) vs (ks.zip ws)/\ks.length=ws.length
 |[],[],vs,h=>by rcases h with _|_;exact⟨trivial,rfl⟩
 |k::ks,w'::ws,vs,⟨t,rest,e,r⟩=>by
  rcases e with _|_;obtain⟨a,b⟩:=tV (prog:=prog) (w:=w) r;exact⟨⟨tU _ _ _ _,rfl,a⟩,congrArg (·+1) b⟩
 |[],_::_,_,h=>h.elim
 |_::_,[],_,h=>h.elim
theorem Gy:∀{ks:List Str} {ms:List ag} {ws:List Value},cc W g ms ws->ks.length=ws.length->gh W g (ks.zip ms) (ks.zip ws)
 |[],_,_,_,_=>trivial
 |k::ks,m::ms,w::ws,⟨a,b⟩,e=>⟨rfl,a,Gy b (Nat.succ.inj e)⟩
 |_::_,[],[],_,e=>by cases e
 |_::_,[],_::_,z,_=>z.elim
 |_::_,_::_,[],z,_=>z.elim
theorem Ky:∀{ks:List Str} {ws:List Value},ks.length=ws.length->(ks.zip ws).map (·.1)=ks:=by
 intro l0
 induction l0 with
 |nil=>
  intro _ _;exact rfl
 |cons k ks ih=>
  intro l1;rcases l1 with _|⟨w,ws⟩
  ·intro e;rcases e with _|_
  ·intro e;exact congrArg (k::·) (ih (Nat.succ.inj e))
noncomputable abbrev jT:Obj:={cls:=.type "dict",data:=.dict #[]}
theorem wg{prog:Program}{w:World}{a:Addr}(e:h.get? a=some jT):Heap.DictOf (strKind prog w) h a []:=
 ⟨_,#[],_,e,⟨rfl,rfl,rfl⟩,rfl,(fun x hx=>by simp at hx),.nil,List.nodup_nil⟩
theorem Nw(I:Inv W g σ s.heap)(C:aS W g env ê s.heap){bQ:Shared}(nx:dP W env ê g σ {s with heap:=s.heap.push jT} cD ab bQ){ks:List Str}{ms:List ag}{ws:List Value}{vs:List (Value×Value)}
  (r:cc W cD ms ws) (hp:rO vs ks ws) (hk:distinct ks=true) (hlen:ks.length<=100) {p:Place} {K:KV} (hv:iP ê=true->ab.gen=σ.gen) (q:pS p (.dict (ks.zip ms)) ê ab K):
  wpAny (model W.prog W.w) A (storeAll s.heap.objs.size vs) (fun _ pX=>aR W env ê g σ s K (.ref s.heap.objs.size) pX) NE bQ:=by
 have hn:=cY s.heap;have hO:g.O s.heap.objs.size=.no:=I.live _ hn;refine bc fun bf=>?_;obtain⟨e1,eO,eB⟩:=nx.post.fo s.heap.objs.size jT (Heap.get?_push_size _ rfl) (by rw[hO];trivial);have hB:cD.B.get? s.heap.objs.size=none:=eB.trans (jn I hn);obtain⟨hc,hl⟩:=tV (prog:=W.prog) (w:=W.w) hp;refine bf ?_;unfold storeAll;refine wpAny_storeAll (knd:=strKind W.prog W.w) vs (ks.zip ws) [] bQ _ hc (wg e1) ?_ (fun h' hd sb=>?_)
 ·rw[List.length_nil,Nat.zero_add,List.length_zip];exact Nat.le_trans (Nat.min_le_left _ _) (Nat.le_trans hlen (by decide+kernel))
 ·rw[merged_nil_of_nodup _ (by rw[Ky hl];exact oK hk)]at hd;have kd:∀b o,b≠s.heap.objs.size->bQ.heap.get? b=some o->(E8 bQ.heap s.heap.objs.size).get? b=some o:=fun b o hb e=>by rw[kn,if_neg hb];exact e
  have I1:Inv W cD ab (E8 bQ.heap s.heap.objs.size):=nx.inv.drop (eO.trans hO) hB kd (fun b e hb=>by rw[kn,if_neg hb]at e;exact e);have C1:=nx.bJ.drop (eO.trans hO) kd;have P0:gf g σ s.heap g σ (s.heap.push jT):=(I.ki (fun b o e=>Heap.get?_push_of_some _ e)).2;have P1:=(P0.trans nx.post).drop hn kd;refine bc fun bf=>?_;obtain⟨o',xG⟩:=oJ hd;have hf:o'.isFreed=false:=(Heap.get?_some_iff.mp xG).2;obtain⟨m,g',aF,W6,rm,I',C',P⟩:=Al (o:=.dict (ks.zip ms)) (h':=h') I1 C1 (by rw[kn,if_pos rfl]) (fun b o e=>by
   rw[kn]at e;by_cases hb:b=s.heap.objs.size
   ·rw[if_pos hb]at e;rcases e with _|_
   ·rw[if_neg hb]at e;exact sb.extBut b o hb e) xG hf (fun g' rm tag z=>⟨z,_,hd,(Gy r hl).rm rm⟩) (fun _ _ z=>nomatch z) q
  refine bf ?_;exact⟨m,g',aF,W6,rm,I',C',P1.trans P,nx.gens,nx.os⟩
end
section
variable{W:Wd}{N:Nm}{G:Own}{A:Around}{s:Shared}{g:Gh}{σ:St}{env:Env}{ê:ak}{d n aJ:Nat}{C:Cl}{Q:KV}
theorem mO (H:iJ W N G) (I:Inv W g σ s.heap) (Ce:aS W g env ê s.heap) {x:Str} {v:Value} {p:Pos} {R:Value->Shared->Prop} (hk:gS env.scope.names x=true) (hd:(x==("__debug__" :Str))=false) (hv:W.mg x=some v) (q:R v s):
  wpAny (model W.prog W.w) A (eval (.Name x p) env) R NE s:=by
 refine Name_function_global Ce.kind ?_ (loadGlobal_global (mg:=W.mg) ?_ hv q) hd
 ·rw[gc rfl];unfold gS at hk;split at hk
  ·rename_i e;exact e
  ·rcases hk with _|_
 ·rw[Ce.glob.1];exact Ns.at H.g fun o e=>I.gP _ _ (I.fT _ _ e)
theorem rP (H:iJ W N G) (I:Inv W g σ s.heap) (Ce:aS W g env ê s.heap) {x:Str} {v:Value} {p:Pos} {R:Value->Shared->Prop} (hk:gS env.scope.names x=true) (hd:(x==("__debug__" :Str))=false) (hn:W.mg x=none) (hv:W.mb x=some v) (q:R v s):
  wpAny (model W.prog W.w) A (eval (.Name x p) env) R NE s:=by
 refine Name_function_global Ce.kind ?_ (loadGlobal_builtin (mg:=W.mg) (mb:=W.mb) ?_ hn ?_ hv q) hd
 ·rw[gc rfl];unfold gS at hk;split at hk
  ·rename_i e;exact e
  ·rcases hk with _|_
 ·rw[Ce.glob.1];exact Ns.at H.g fun o e=>I.gP _ _ (I.fT _ _ e)
 ·rw[Ce.glob.2];exact Ns.at H.b fun o e=>I.gP _ _ (I.fT _ _ e)
theorem e_c(I:Inv W g σ s.heap)(Ce:aS W g env ê s.heap){v:D}{x:Expr}(hc:aH N (aJ+1) env.scope.names (.c v) x=true)(q:Q (.d v) σ):wpAny (model W.prog W.w) A (eval x env) (aR W env ê g σ s Q) NE s:=by
 have same:∀tk,dP W env ê g σ s g σ {s with toks:=tk}:=fun tk=>dP.ki I Ce (fun _ _ e=>e) rfl rfl;refine sI hc fun c k p hc=>?_;exact M8 (motive:=fun c v=>Q (.d v) σ->wpAny (model W.prog W.w) A (eval (.Constant c k p) env) (aR W env ê g σ s Q) NE s) hc (fun q=>wpAny_Constant_none ⟨_,g,σ,q,mM,dP.refl I Ce⟩)
  (fun _ q=>wpAny_Constant_bool ⟨_,g,σ,q,rH _,dP.refl I Ce⟩) (fun _ q=>wpAny_Constant_int ⟨_,g,σ,q,ig _ _,same _⟩) (fun _ q=>wpAny_Constant_str ⟨_,g,σ,q,nJ _ _,same _⟩) q
theorem UO(I:Inv W g σ s.heap)(Ce:aS W g env ê s.heap){i:Nat}{x:Expr}(hc:aH N (aJ+1) env.scope.names (.neg i) x=true)(q:Q (.d (.int (.negSucc i))) σ):wpAny (model W.prog W.w) A (eval x env) (aR W env ê g σ s Q) NE s:=by
 have same:∀tk,dP W env ê g σ s g σ {s with toks:=tk}:=fun tk=>dP.ki I Ce (fun _ _ e=>e) rfl rfl;refine Qy hc fun o y p hc=>dU hc fun ho h1=>sI h1 fun c _ _ h1=>M7 h1 fun j h1=>?_;rcases o with _|_<;>first
 |exact ff ho
 |have e:=of_decide_eq_true h1
  subst e;refine wpAny_UnaryOp (wpAny_Constant_int (neg_int ⟨_,g,σ,q,?_,same _⟩));have: -((i:Int)+1)=.negSucc i:=rfl;refine az (this) ?_;exact ig _ _
theorem UP(I:Inv W g σ s.heap)(Ce:aS W g env ê s.heap){y:Str}{x:Expr}(hc:aH N (aJ+1) env.scope.names (.var y) x=true)(q:oS (dF y ê) fun v=>Q (res σ v) σ):wpAny (model W.prog W.w) A (eval x env) (aR W env ê g σ s Q) NE s:=by
 refine dW hc fun z p hc=>dU hc fun h1 h2=>?_;refine n9 (cX h1) fun uz hd _ xF=>?_;subst uz;refine lN q fun m e q=>?_;refine bR (Ce.vars _ _ e) fun v hh r=>?_;exact ly (h:=s.heap) Ce.kind hh hd ⟨_,g,σ,q,rN I r,dP.refl I Ce⟩ (.inl xF)
theorem UQ(H:iJ W N G)(I:Inv W g σ s.heap)(Ce:aS W g env ê s.heap){f:Nat}{x:Expr}(hc:aH N (aJ+1) env.scope.names (.ph f) x=true)(q:Q (.fn f) σ):wpAny (model W.prog W.w) A (eval x env) (aR W env ê g σ s Q) NE s:=by
 refine dW hc fun z p hc=>dU hc fun h1 h2=>?_;refine n9 (cX h1) fun uz hd he xF=>?_;subst uz;exact mO H I Ce h2 hd (H.fn f he) ⟨_,g,σ,q,rfl,dP.refl I Ce⟩
theorem UR(H:iJ W N G)(I:Inv W g σ s.heap)(Ce:aS W g env ê s.heap){k:Nat}{x:Expr}(hc:aH N (aJ+1) env.scope.names (.O1 k) x=true)(q:ev G C (n+1) (.O1 k) ê σ Q):wpAny (model W.prog W.w) A (eval x env) (aR W env ê g σ s Q) NE s:=by
 refine dW hc fun z p hc=>dU hc fun h1 h2=>?_
 induction k using Nat.casesAuxOn with
 |zero=>
  refine n9 (cX h1) fun e hd he xF=>?_;subst e;exact mO H I Ce h2 hd H.tab ⟨.g,g,σ,q,rfl,dP.refl I Ce⟩
 |succ k=>
  refine n9 (cX h1) fun e hd he xF=>?_;subst e;refine bR (H.tup) fun v e1 r=>?_;exact mO H I Ce h2 hd e1 ⟨.d G.tup,g,σ,q,dQ.mono (fun a o e=>I.fT a o e) r,dP.refl I Ce⟩
theorem Q0(H:iJ W N G)(IH:ek W d (ev G C n) (aH N aJ))(a:ix d 2 A)(I:Inv W g σ s.heap)(Ce:aS W g env ê s.heap){o:E}{nm:Str}{x:Expr}(hc:aH N (aJ+1) env.scope.names (.attr o nm) x=true)
  (q:ev G C n o ê σ fun v ab=>Br v nm ab fun w=>Q w ab):wpAny (model W.prog W.w) A (eval x env) (aR W env ê g σ s Q) NE s:=by
 refine lr hc fun v b p hc=>l4 hc fun h1 h2 h3 h4=>?_;have e:=bj.mp h2;subst e;refine Attribute_any_ (aR.go (IH o v env ê g σ s _ A h4 a I Ce q) fun m w g' aF s' q r nx=>?_) ?_
 ·exact aR.on nx (Gw H nx.inv nx.bJ h3 r q) fun m oM ⟨e,k⟩=>e▸k
 ·rcases v with _|_<;>first|rfl|rcases h1 with _|_
theorem US(H:iJ W N G)(IH:ek W d (ev G C n) (aH N aJ))(a:ix d 2 A)(I:Inv W g σ s.heap)(Ce:aS W g env ê s.heap){o i:E}{x:Expr}(hc:aH N (aJ+1) env.scope.names (.sub o i) x=true)
  (q:ev G C n o ê σ fun v ab=>ev G C n i ê ab fun w au=>xK v ab au (u9 G.tab v w au fun x=>Q x au)):wpAny (model W.prog W.w) A (eval x env) (aR W env ê g σ s Q) NE s:=by
 refine pn hc fun v w p hc=>iA hc fun h1 h2 h3=>?_;refine Subscript_ (aR.go (IH o v env ê g σ s _ A h2 a I Ce q) fun m u g' aF s' q r nx=>?_);refine aR.go (IH i w env ê g' aF s' _ A h3 a nx.inv nx.bJ q) fun m' u' Pn oM Po q r' lM=>?_;obtain⟨hv,q⟩:=f9 q;exact aR.on (nx.trans lM) (QQ H a lM.inv lM.bJ h1 (lM.rep r hv) r' q) fun m oM ⟨e,k⟩=>e▸k
theorem UT(H:iJ W N G)(IH:ek W d (ev G C n) (aH N aJ))(a:ix d 2 A)(I:Inv W g σ s.heap)(Ce:aS W g env ê s.heap){op:Op}{l r:E}{x:Expr}(hc:aH N (aJ+1) env.scope.names (.bin op l r) x=true)
  (q:ev G C n l ê σ fun v ab=>ev G C n r ê ab fun w au=>jK v fun x=>jK w fun y=>MV op x y fun z=>Q (.d z) au):wpAny (model W.prog W.w) A (eval x env) (aR W env ê g σ s Q) NE s:=by
 refine Gf hc fun v o w p hc=>iA hc fun h1 h2 h3=>?_;refine wpAny_BinOp (aR.go (IH l v env ê g σ s _ A h2 a I Ce q) fun m u g' aF s' q r1 nx=>?_);refine aR.go (IH r w env ê g' aF s' _ A h3 a nx.inv nx.bJ q) fun m' u' Pn oM Po q r' lM=>?_;refine bc fun hn=>?_;revert r1 r';refine cN q fun x q=>cN q fun y q r1 r'=>hn ?_;exact aR.on (nx.trans lM) (QN lM.inv lM.bJ h1 (lM.rep r1 (fun z=>nomatch z)) r' q) fun m oM ⟨e,z,e',k⟩=>by rw[e,e'];exact k
theorem Gz{op:CmpOp}{w:Expr}(h:(!isSet w)=true):behindInMarks op w=false:=by
 rcases w with _|_<;>first|rfl|rcases h with _|_
theorem UU(H:iJ W N G)(IH:ek W d (ev G C n) (aH N aJ))(a:ix d 2 A)(I:Inv W g σ s.heap)(Ce:aS W g env ê s.heap){op:CO}{l r:E}{x:Expr}(hc:aH N (aJ+1) env.scope.names (.cmp op l r) x=true)
  (q:ev G C n l ê σ fun v ab=>ev G C n r ê ab fun w au=>xK v ab au (MW G.tab op v w au fun b=>Q (.d (.bool b)) au)):wpAny (model W.prog W.w) A (eval x env) (aR W env ê g σ s Q) NE s:=by
 refine Gg hc fun v os ws p hc=>jh hc fun o hc=>jh hc fun w hc=>l4 hc fun h1 h2 h3 h4=>?_;refine wpAny_Compare1 (aR.go (IH l v env ê g σ s _ A h2 a I Ce q) fun m u g' aF s' q r1 nx=>?_) (Gz h4);refine aR.go (IH r w env ê g' aF s' _ A h3 a nx.inv nx.bJ q) fun m' u' Pn oM Po q r' lM=>?_;obtain⟨hv,q⟩:=f9 q;exact aR.on (nx.trans lM) (Kq H a lM.inv lM.bJ h1 (lM.rep r1 hv) r' q) fun m oM ⟨e,z,e',k⟩=>by rw[e,e'];exact k
theorem Q1(H:iJ W N G)(IH:ek W d (ev G C n) (aH N aJ))(a:ix d 2 A)(I:Inv W g σ s.heap)(Ce:aS W g env ê s.heap){l r:E}{x:Expr}(hc:aH N (aJ+1) env.scope.names (.cx l r) x=true)
  (q:ev G C n l ê σ fun v ab=>vd v fun b=>SM b (ev G C n r ê ab Q) (Q (.d (.bool false)) ab)):wpAny (model W.prog W.w) A (eval x env) (aR W env ê g σ s Q) NE s:=by
 refine Gj hc fun v w p hc=>dU hc fun h2 h3=>?_;refine wpAny_And2 (aR.go (IH l v env ê g σ s _ A h2 a I Ce q) fun m u g' aF s' q r1 nx=>?_);refine bc fun hn=>?_;revert r1;refine cN q fun x q=>Qh q fun b q r1=>hn ?_
 ·refine jq r1 ?_;refine wpAny_truthy_bool ?_
  induction b using Bool.casesOn with
  |true=>exact aR.on nx (IH r w env ê g' aF s' _ A h3 a nx.inv nx.bJ q) fun _ _ k=>k
  |false=>exact⟨_,g',aF,q,rH _,nx⟩
theorem UW(H:iJ W N G)(IH:ek W d (ev G C n) (aH N aJ))(a:ix d 2 A)(I:Inv W g σ s.heap)(Ce:aS W g env ê s.heap){l r:E}{x:Expr}(hc:aH N (aJ+1) env.scope.names (.Bf l r) x=true)
  (q:ev G C n l ê σ fun v ab=>vd v fun b=>SM b (Q (.d (.bool true)) ab) (ev G C n r ê ab Q)):wpAny (model W.prog W.w) A (eval x env) (aR W env ê g σ s Q) NE s:=by
 refine JX hc fun v w p hc=>dU hc fun h2 h3=>?_;refine wpAny_Or2 (aR.go (IH l v env ê g σ s _ A h2 a I Ce q) fun m u g' aF s' q r1 nx=>?_);refine bc fun hn=>?_;revert r1;refine cN q fun x q=>Qh q fun b q r1=>hn ?_
 ·refine jq r1 ?_;refine wpAny_truthy_bool ?_
  induction b using Bool.casesOn with
  |false=>exact aR.on nx (IH r w env ê g' aF s' _ A h3 a nx.inv nx.bJ q) fun _ _ k=>k
  |true=>exact⟨_,g',aF,q,rH _,nx⟩
end
section
variable{W:Wd}{N:Nm}{G:Own}{A:Around}{s:Shared}{g:Gh}{σ:St}{env:Env}{ê:ak}{d n aJ:Nat}{C:Cl}{Q:KV}
theorem ux.go{M:Model}{Q:Bool->St->Prop}{R:Bool->Shared->Prop}{t:Sem Bool}(h:wpAny M A t (ux W env ê g σ s Q) NE s)
  (k:∀b g' aF s',Q b aF->dP W env ê g σ s g' aF s'->R b s'):wpAny M A t R NE s:=
 cQ h fun v s' ⟨g',aF,q,n⟩=>k v g' aF s' q n
theorem E9{v:ag}{K:Bool->Prop}(h:vd v K):∃b,v=.d (.bool b)/\K b:=by
 exact cN h fun x h=>Qh h fun b h=>⟨b,rfl,h⟩
theorem Am(H:iJ W N G)(IH:∀m,m<=n->ek W d (ev G C n) (aH N m))(a:ix d 2 A):∀(k:Nat) (e:E) (x:Expr) (g:Gh) (σ:St) (s:Shared) (Q:Bool->St->Prop) (m:Nat),m<=n->aH N m env.scope.names e x=true->Inv W g σ s.heap->aS W g env ê s.heap->
  DY (ev G C n) G.tab k e ê σ Q->wpAny (model W.prog W.w) A (isTrue x env (eval x env)) (ux W env ê g σ s Q) NE s:=by
 intro k
 induction k with
 |zero=>intro e x g σ s Q m hm hc I Ce q;exact q.elim
 |succ k ih=>
  intro e x g σ s Q m hm hc I Ce q;have val:∀e',ev G C n e' ê σ (fun v ab=>vd v fun b=>Q b ab)->aH N m env.scope.names e' x=true->(isTrue x env (eval x env)=(do let v <-eval x env;standAt x.pos;holding [v] (truthy v)))->
    wpAny (model W.prog W.w) A (isTrue x env (eval x env)) (ux W env ê g σ s Q) NE s:=fun e' q hc he=>by
   refine wpAny_isTrue_value (aR.go (IH m hm e' x env ê g σ s _ A hc a I Ce q) fun m u g' aF s' q r nx=>?_) he;refine bR (E9 q) fun b Kz q=>?_;subst Kz;refine jq r ?_;exact wpAny_truthy_bool ⟨g',aF,q,nx⟩
  induction e using E.casesOn with
  |cx l r=>
   induction m using Nat.casesAuxOn with
   |zero=>cases hc
   |succ m=>
    refine Gj hc fun v w p hc=>dU hc fun h2 h3=>?_;refine wpAny_isTrue_BoolOp (wpAny_allTrue_And_cons (ux.go (ih l v g σ s _ m (Nat.le_of_succ_le hm) h2 I Ce q) fun b g' aF s' q nx=>?_))
    induction b using Bool.casesOn with
    |true=>
     refine wpAny_allTrue_And_cons (ux.go (ih r w g' aF s' _ m (Nat.le_of_succ_le hm) h3 nx.inv nx.bJ q) fun b Pn oM Po q lM=>?_)
     induction b using Bool.casesOn with
     |true=>exact wpAny_allTrue_And_nil ⟨_,_,q,nx.trans lM⟩
     |false=>exact⟨_,_,q,nx.trans lM⟩
    |false=>exact⟨_,_,q,nx⟩
  |Bf l r=>
   induction m using Nat.casesAuxOn with
   |zero=>cases hc
   |succ m=>
    refine JX hc fun v w p hc=>dU hc fun h2 h3=>?_;refine wpAny_isTrue_BoolOp (wpAny_allTrue_Or_cons (ux.go (ih l v g σ s _ m (Nat.le_of_succ_le hm) h2 I Ce q) fun b g' aF s' q nx=>?_))
    induction b using Bool.casesOn with
    |false=>
     refine wpAny_allTrue_Or_cons (ux.go (ih r w g' aF s' _ m (Nat.le_of_succ_le hm) h3 nx.inv nx.bJ q) fun b Pn oM Po q lM=>?_)
     induction b using Bool.casesOn with
     |false=>exact wpAny_allTrue_Or_nil ⟨_,_,q,nx.trans lM⟩
     |true=>exact⟨_,_,q,nx.trans lM⟩
    |true=>exact⟨_,_,q,nx⟩
  |cmp op l r=>
   induction m using Nat.casesAuxOn with
   |zero=>cases hc
   |succ m=>
    refine Gg hc fun v os ws p hc=>jh hc fun o hc=>jh hc fun w hc=>l4 hc fun h1 h2 h3 h4=>?_;have Ho:=Nat.le_of_succ_le hm;refine wpAny_isTrue_Compare1 (aR.go (IH m Ho l v env ê g σ s _ A h2 a I Ce q) fun m' u g' aF s' q r1 nx=>?_) (Gz h4);refine aR.go (IH m Ho r w env ê g' aF s' _ A h3 a nx.inv nx.bJ q) fun m' u' Pn oM Po q r' lM=>?_;have KA:=f9 q;have hv:=KA.1;have q:=KA.2;clear KA;refine aR.go (Kq H a lM.inv lM.bJ h1 (lM.rep r1 hv) r' q) fun m' u' g3 nZ s3 ⟨e,b,e',k⟩ r3 k7=>?_;subst e e';refine jq r3 ?_;exact wpAny_truthy_bool ⟨_,_,k,(nx.trans lM).trans k7⟩
  |var z=>
   refine val _ q hc ?_
   induction m using Nat.casesAuxOn with
   |zero=>cases hc
   |succ m=>exact dW hc fun _ _ _=>rfl
  |sub o i=>
   refine val _ q hc ?_
   induction m using Nat.casesAuxOn with
   |zero=>cases hc
   |succ m=>exact pn hc fun _ _ _ _=>rfl
  |call f l=>
   refine val _ q hc ?_
   induction m using Nat.casesAuxOn with
   |zero=>cases hc
   |succ m=>exact gZ hc fun _ _ _ _ _=>rfl
  |_=>exact False.elim q
theorem UX(H:iJ W N G)(IH:∀m,m<=n->ek W d (ev G C n) (aH N m))(hk:aJ<=n)(a:ix d 2 A)(I:Inv W g σ s.heap)(Ce:aS W g env ê s.heap){c t e:E}{x:Expr}(hc:aH N (aJ+1) env.scope.names (.ite c t e) x=true)
  (q:DY (ev G C n) G.tab n c ê σ fun b ab=>match b with
   |true=>ev G C n t ê ab Q
   |false=>ev G C n e ê ab Q):wpAny (model W.prog W.w) A (eval x env) (aR W env ê g σ s Q) NE s:=by
 refine Qz hc fun u v w p hc=>iA hc fun h1 h2 h3=>?_;refine wpAny_IfExp (ux.go (Am H IH a n c u g σ s _ aJ hk h1 I Ce q) fun b g' aF s' q nx=>?_)
 induction b using Bool.casesOn with
 |true=>exact aR.on nx (IH aJ hk t v env ê g' aF s' _ A h2 a nx.inv nx.bJ q) fun _ _ k=>k
 |false=>exact aR.on nx (IH aJ hk e w env ê g' aF s' _ A h3 a nx.inv nx.bJ q) fun _ _ k=>k
theorem EP.go{M:Model}{Q:List ag->St->Prop}{R:List Value->Shared->Prop}{t:Sem (List Value)}(h:wpAny M A t (EP W env ê g σ s Q) NE s)
  (k:∀ms vs g' aF s',Q ms aF->cc W g' ms vs->jf ms=true->dP W env ê g σ s g' aF s'->R vs s'):wpAny M A t R NE s:=
 cQ h fun v s' ⟨m,g',aF,q,r,z,n⟩=>k m v g' aF s' q r z n
theorem lT{x:Expr}{xs:List Expr}{env:Env}(h:notStar x=true):starEach (x::xs) env=(false,eval x env)::starEach xs env:=by
 rcases x with _|_<;>first|rfl|rcases h with _|_
theorem An(H:iJ W N G)(IH:ek W d (ev G C n) (aH N aJ))(a:ix d 2 A){pos:Pos}:∀(l:List E) (xs:List Expr) (g:Gh) (σ:St) (s:Shared) (Q:List ag->St->Prop),jG (aH N aJ env.scope.names) l xs=true->Inv W g σ s.heap->aS W g env ê s.heap->
  DI (ev G C n) l ê σ Q->wpAny (model W.prog W.w) A (spliced (backTo pos (starEach xs env))) (EP W env ê g σ s fun ms aF=>ms.length=l.length/\Q ms aF) NE s
 |[],[],g,σ,s,Q,hc,I,Ce,q=>spliced_nil ⟨[],g,σ,⟨rfl,q⟩,trivial,rfl,dP.refl I Ce⟩
 |e::es,x::xs,g,σ,s,Q,hc,I,Ce,q=>by
  have hc:(notStar x&&aH N aJ env.scope.names e x&&jG (aH N aJ env.scope.names) es xs)=true:=hc;simp only[Bool.and_eq_true]at hc;obtain⟨⟨h1,h2⟩,h3⟩:=hc;refine spliced_more (aR.go (IH e x env ê g σ s _ A h2 a I Ce q) fun m u g' aF s' q r nx=>?_) (lT h1);refine lY (yM nx.inv nx.bJ r q) fun m' g2 tW q r2 nt iB=>?_;refine EP.go (An H IH a es xs g2 tW s' _ h3 iB.inv iB.bJ q) fun ms vs g3 nZ s3 q r3 nts k7=>?_;have hl:=q.1;have q':=q.2;have wh:=f9 q';have hv:=wh.1;have UY:=wh.2;clear wh;exact⟨m'::ms,g3,nZ,⟨congrArg (·+1) hl,UY⟩,⟨k7.rep r2 hv,r3⟩,qF nt nts,(nx.trans iB).trans k7⟩
 |[],_::_,_,_,_,_,hc,_,_,_=>by cases hc
 |_::_,[],_,_,_,_,hc,_,_,_=>by cases hc
theorem KC{ck:E->Expr->Bool}:∀{l:List E} {xs:List Expr},jG ck l xs=true->xs.length=l.length:=by
 intro l0
 induction l0 with
 |nil=>
  intro l1;rcases l1 with _|⟨y0,nR⟩
  ·intro _;exact rfl
  ·intro h;cases h
 |cons e es ih=>
  intro l1;rcases l1 with _|⟨x,xs⟩
  ·intro h;cases h
  ·intro h;have h:(notStar x&&ck e x&&jG ck es xs)=true:=h;simp only[Bool.and_eq_true]at h;exact congrArg (·+1) (ih h.2)
theorem Fb{ms:List ag}{ds:List D}{vs:List Value}(h:qU ms=some ds)(r:cc W g ms vs):∃as,ReadsAll g.B vs ds as:=by
 rw[CA h]at r;exact gR r
theorem UZ(H:iJ W N G)(IH:ek W d (ev G C n) (aH N aJ))(a:ix d 2 A)(I:Inv W g σ s.heap)(Ce:aS W g env ê s.heap){l:List E}{x:Expr}(hc:aH N (aJ+1) env.scope.names (.tup l) x=true)
  (q:DI (ev G C n) l ê σ fun vs ab=>oS (qU vs) fun ds=>Q (.d (.tuple ds)) ab):wpAny (model W.prog W.w) A (eval x env) (aR W env ê g σ s Q) NE s:=by
 refine qW hc fun xs k p hc=>dU hc fun h1 h2=>?_;refine wpAny_Tuple (EP.go (An H IH a l xs g σ s _ h1 I Ce q) fun ms vs g' aF s' q r nt nx=>?_)
 ·obtain⟨hl,q⟩:=q;have hz:vs.length<=sizeLine:=by
   rw[d7 r,hl];exact Nat.le_trans (of_decide_eq_true h2) (by decide+kernel)
  refine⟨hz,?_⟩;refine lN q fun ds e q=>?_;obtain⟨as,ra⟩:=Fb e r;exact(EX nx.inv nx.bJ ra q).pre nx
end
section
variable{W:Wd}{N:Nm}{G:Own}{A:Around}{s:Shared}{g:Gh}{σ:St}{env:Env}{ê:ak}{d n aJ:Nat}{C:Cl}{Q:KV}
theorem U0(H:iJ W N G)(IH:ek W d (ev G C n) (aH N aJ))(a:ix d 2 A)(I:Inv W g σ s.heap)(Ce:aS W g env ê s.heap){p:Place}{l:List E}{x:Expr}(hc:aH N (aJ+1) env.scope.names (.lst p l) x=true)
  (q:DI (ev G C n) l ê σ fun vs ab=>pS p (Jp vs) ê ab Q):wpAny (model W.prog W.w) A (eval x env) (aR W env ê g σ s Q) NE s:=by
 refine JR hc fun xs p hc=>dU hc fun h1 h2=>?_;refine wpAny_List (EP.go (An H IH a l xs g σ s _ h1 I Ce q) fun ms vs g' aF s' q r nt nx=>?_);have hl:=q.1;have q':=q.2;refine⟨?_,(Nv nx.inv nx.bJ r q').pre nx⟩;rw[d7 r,hl];exact Nat.le_trans (of_decide_eq_true h2) (by decide+kernel)
theorem KD(H:iJ W N G)(IH:ek W d (ev G C n) (aH N aJ))(a:ix d 2 A){pos:Pos}:∀(ks:List Str) (l:List E) (ys:List (Option Expr)) (xs:List Expr) (g:Gh) (σ:St) (s:Shared) (Q:List ag->St->Prop),Gk ks ys=true->jG (aH N aJ env.scope.names) l xs=true->ks.length=l.length->Inv W g σ s.heap->aS W g env ê s.heap->
  DI (ev G C n) l ê σ Q->wpAny (model W.prog W.w) A (evalPairs (pairTrees ys xs env pos)) (fun vs s'=>∃ms ws g' aF,Q ms aF/\cc W g' ms ws/\rO vs ks ws/\dP W env ê g σ s g' aF s') NE s:=by
 intro l0
 induction l0 with
 |nil=>
  intro l ys xs g σ s Q hk hc hl I Ce q;rcases l with _|⟨e,es⟩
  ·rcases ys with _|⟨y,ys⟩
   ·rcases xs with _|⟨x,xs⟩
    ·exact wpAny_pure ⟨[],[],g,σ,q,trivial,rfl,dP.refl I Ce⟩
    ·exact ff hc
   ·exact ff hk
  ·cases hl
 |cons k ks ih=>
  intro l ys xs g σ s Q hk hc hl I Ce q;rcases l with _|⟨e,es⟩
  ·cases hl
  rcases ys with _|⟨y,ys⟩
  ·exact ff hk
  rcases xs with _|⟨x,xs⟩
  ·exact ff hc
  have hc:(notStar x&&aH N aJ env.scope.names e x&&jG (aH N aJ env.scope.names) es xs)=true:=hc;simp only[Bool.and_eq_true]at hc;obtain⟨⟨h1,h2⟩,h3⟩:=hc;have Fc:=cx hk;have DJ:=Fc.1;have SR:=Fc.2;clear Fc
  ·refine qY DJ fun y DJ=>sI DJ fun c kd kp DJ=>M9 DJ fun y' DJ=>?_;have ey:=bj.mp DJ;subst ey;show wpAny _ _ (eval _ env>>= _) _ _ _;refine wpAny_bind (wpAny_Constant_str (wpAny_bind (wpAny_holding (wpAny_bind ?_))));have Js:dP W env ê g σ s g σ {s with toks:=s.toks+1}:=dP.ki I Ce (fun _ _ e=>e) rfl rfl;refine aR.go (IH e x env ê g σ _ _ A h2 a Js.inv Js.bJ q) fun m u g' aF s' q r nx=>?_;refine wpAny_bind (wpAny_standAt (wpAny_pure (wpAny_bind (wpAny_holding ?_))));refine lY (yM nx.inv nx.bJ r q) fun m' g2 tW q r2 nt iB=>?_;refine cQ (ih es ys xs g2 tW s' _ SR h3 (Nat.succ.inj hl) iB.inv iB.bJ q) fun vs s3 h=>?_;refine Jy (h) fun ms ws g3 nZ q' r3 hp k7=>?_;have wh:=f9 q';have hv:=wh.1;have UY:=wh.2;clear wh;exact wpAny_pure ⟨m'::ms,u::ws,g3,nZ,UY,⟨k7.rep r2 hv,r3⟩,⟨_,_,rfl,hp⟩,((Js.trans nx).trans iB).trans k7⟩
theorem Fd:∀{ks:List Str} {ys:List (Option Expr)},Gk ks ys=true->(ys.all fun x=>x.isSome)=true/\ys.length=ks.length:=by
 intro l0
 induction l0 with
 |nil=>
  intro l1;rcases l1 with _|⟨y0,nR⟩
  ·intro _;exact⟨rfl,rfl⟩
  ·intro h;cases h
 |cons k ks ih=>
  intro l1;rcases l1 with _|⟨y,ys⟩
  ·intro h;cases h
  ·intro h;obtain⟨h1,h2⟩:=cx h;obtain⟨a,b⟩:=ih h2;exact qY h1 fun _ _=>⟨by rw[List.all_cons,a];rfl,congrArg (·+1) b⟩
theorem U1(H:iJ W N G)(IH:ek W d (ev G C n) (aH N aJ))(a:ix d 2 A)(I:Inv W g σ s.heap)(Ce:aS W g env ê s.heap){p:Place}{ks:List Str}{l:List E}{x:Expr}(hc:aH N (aJ+1) env.scope.names (.Hi p ks l) x=true)
  (q:DI (ev G C n) l ê σ fun vs ab=>pR ê σ ab (pS p (.dict (ks.zip vs)) ê ab Q)):wpAny (model W.prog W.w) A (eval x env) (aR W env ê g σ s Q) NE s:=by
 refine JT hc fun ys xs pp hc=>qn hc fun h1 h2 h3 h4 h5=>?_;have h3:=of_decide_eq_true h3;have h4:=of_decide_eq_true h4;obtain⟨ha,hy⟩:=Fd h1;have hx:=KC h2
 induction l using List.casesOn with
 |nil=>
  have e1:ks=[]:=List.length_eq_zero_iff.mp h3;subst e1;have e2:ys=[]:=List.length_eq_zero_iff.mp hy;have e3:xs=[]:=List.length_eq_zero_iff.mp hx;subst e2 e3;obtain⟨_,q⟩:=mK (show pR ê σ σ (pS p (.dict []) ê σ Q)from q);refine wpAny_Dict_empty ?_;have hg:(s.heap.push jT).get? s.heap.objs.size=some jT:=Heap.get?_push_size _ rfl;refine Te (Al (o:=.dict []) I Ce (cY _) (fun b o e=>Heap.get?_push_of_some _ e) hg rfl (fun g' rm tag z=>⟨z,[],wg hg,trivial⟩) (fun _ _ z=>nomatch z) q) fun m g' aF hk rm I' C' P=>?_;exact⟨m,g',aF,hk,rm,I',C',P,rfl,rfl⟩
 |cons e es=>
  refine wpAny_Dict_any ha (by rw[hy,h3,hx]) (fun z=>by rw[z]at hy;rw[h3]at hy;cases hy) (by rw[hy,h3];exact h4) ?_;have Js:dP W env ê g σ s g σ {s with heap:=s.heap.push jT}:=dP.ki I Ce (fun b o e=>Heap.get?_push_of_some _ e) rfl rfl;refine cQ (KD H IH a ks (e::es) ys xs g σ _ _ h1 h2 h3 Js.inv Js.bJ q) fun vs s1 h=>?_;refine Jy (h) fun ms ws g1 W7 q' r hp nx=>?_;obtain⟨hv,UY⟩:=mK q';exact Nw I Ce nx r hp h5 (by rw[h3];exact Nat.le_trans h4 (by decide)) hv UY
theorem U2(IH:ek W d (ev G C n) (aH N aJ))(a:ix d 2 A)(I:Inv W g σ s.heap)(Ce:aS W g env ê s.heap){e:E}{x:Expr}(hc:aH N (aJ+1) env.scope.names (.gP e) x=true)
  (q:ev G C n e ê σ fun v ab=>Qk v ê ab Q):wpAny (model W.prog W.w) A (eval x env) (aR W env ê g σ s Q) NE s:=by
 refine aR.go (IH e x env ê g σ s _ A hc a I Ce q) fun m u g' aF s' q r nx=>?_;exact(QZ nx.inv nx.bJ r q).pre nx
theorem KG(H:iJ W N G)(IH:ek W d (ev G C n) (aH N aJ))(a:ix d 2 A)(I:Inv W g σ s.heap)(Ce:aS W g env ê s.heap){e:E}{z:Str}{y:Expr}{np pos:Pos}{id:String}{R:Value->Shared->Prop}{Q':KV}
  (hz:(z==("__debug__" :Str))=false) (hg:gS env.scope.names z=true) (hm:W.mg z=none) (hb:W.mb z=some (.builtin id)) (hc:jG (aH N aJ env.scope.names) [e] [y]=true) (q:ev G C n e ê σ Q')
  (k:∀m v g' aF s',Q' m aF->bG W g' m v->dP W env ê g σ s g' aF s'->wpAny (model W.prog W.w) A (call (.builtin id) [v]) R NE s'):wpAny (model W.prog W.w) A (eval (.Call (.Name z np) [y] [] pos) env) R NE s:=by
 have hc:(notStar y&&aH N aJ env.scope.names e y&&true)=true:=hc;simp only[Bool.and_eq_true]at hc;obtain⟨⟨h1,h2⟩,_⟩:=hc;refine wpAny_Call_ofName (rP H I Ce hg hz hm hb ?_);have es:starEach [y] env=[(false,eval y env)]:=lT h1;refine az (es) ?_;refine callWith_builtin rfl (evalArgs_plain (spliced_cons (aR.go (IH e y env ê g σ s _ A h2 a I Ce q) fun m v g' aF s' q r nx=>spliced_nil ?_)));exact k m v g' aF s' q r nx
theorem rQ(H:iJ W N G)(IH:ek W d (ev G C n) (aH N aJ))(a:ix d 2 A)(I:Inv W g σ s.heap)(Ce:aS W g env ê s.heap){e:E}{z:Str}{y:Expr}{np pos:Pos}{id:String}{R:Value->Shared->Prop}{Q':KV}
  (hz:(z==("__debug__" :Str))=false) (hg:gS env.scope.names z=true) (hm:W.mg z=none) (hb:W.mb z=some (.type id)) (hc:jG (aH N aJ env.scope.names) [e] [y]=true) (q:ev G C n e ê σ Q')
  (k:∀m v g' aF s',Q' m aF->bG W g' m v->dP W env ê g σ s g' aF s'->wpAny (model W.prog W.w) A (call (.type id) [v]) R NE s'):wpAny (model W.prog W.w) A (eval (.Call (.Name z np) [y] [] pos) env) R NE s:=by
 have hc:(notStar y&&aH N aJ env.scope.names e y&&true)=true:=hc;simp only[Bool.and_eq_true]at hc;obtain⟨⟨h1,h2⟩,_⟩:=hc;refine wpAny_Call_ofName (rP H I Ce hg hz hm hb ?_);have es:starEach [y] env=[(false,eval y env)]:=lT h1;refine az (es) ?_;refine PyProof.Rows.callWith_type rfl (evalArgs_plain (spliced_cons (aR.go (IH e y env ê g σ s _ A h2 a I Ce q) fun m v g' aF s' q r nx=>spliced_nil ?_)));exact k m v g' aF s' q r nx
theorem U3(H:iJ W N G)(IH:ek W d (ev G C n) (aH N aJ))(a:ix d 2 A)(I:Inv W g σ s.heap)(Ce:aS W g env ê s.heap){e:E}{x:Expr}(hc:aH N (aJ+1) env.scope.names (.len e) x=true)
  (q:ev G C n e ê σ fun v ab=>Ql v ab fun k=>Q (.d (.int k)) ab):wpAny (model W.prog W.w) A (eval x env) (aR W env ê g σ s Q) NE s:=by
 refine gZ hc fun z np xs pos hc=>jh hc fun y hc=>iA hc fun h1 h2 h3=>?_;refine n9 (cX h1) fun uz hd _ _=>?_;subst uz;exact KG H IH a I Ce hd h2 H.bl.1 H.bl.2 h3 q fun m v g' aF s' q r nx=>aR.on nx (QS nx.inv nx.bJ r q) fun m oM ⟨e,k,e',hk⟩=>by rw[e,e'];exact hk
theorem U4(H:iJ W N G)(IH:ek W d (ev G C n) (aH N aJ))(a:ix d 2 A)(I:Inv W g σ s.heap)(Ce:aS W g env ê s.heap){e:E}{x:Expr}(hc:aH N (aJ+1) env.scope.names (.str e) x=true)
  (q:ev G C n e ê σ fun v ab=>fz v ab fun v' au=>Qo v' fun x=>Q (.d x) au):wpAny (model W.prog W.w) A (eval x env) (aR W env ê g σ s Q) NE s:=by
 refine gZ hc fun z np xs pos hc=>jh hc fun y hc=>iA hc fun h1 h2 h3=>?_;refine n9 (cX h1) fun uz hd _ _=>?_;subst uz;refine rQ H IH a I Ce hd h2 H.bs.1 H.bs.2 (by exact h3) q fun m v g' aF s' q r nx=>?_;refine lY (yM nx.inv nx.bJ r q) fun m' g2 tW q r2 nt iB=>?_;exact aR.on (nx.trans iB) (QV H a (by decide) iB.inv iB.bJ r2 q) fun m oM ⟨e,k,e',hk⟩=>by rw[e,e'];exact hk
theorem KH(H:iJ W N G)(IH:ek W d (ev G C n) (aH N aJ))(a:ix d 2 A)(I:Inv W g σ s.heap)(Ce:aS W g env ê s.heap){e:E}{x:Expr}(hc:aH N (aJ+1) env.scope.names (.sy e) x=true)
  (q:ev G C n e ê σ fun v ab=>jK v fun x=>dL x fun l=>l.length<=ah/\Q (.d (.list l)) ab):wpAny (model W.prog W.w) A (eval x env) (aR W env ê g σ s Q) NE s:=by
 refine gZ hc fun z np xs pos hc=>jh hc fun y hc=>iA hc fun h1 h2 h3=>?_;refine n9 (cX h1) fun uz hd _ _=>?_;subst uz;refine rQ H IH a I Ce hd h2 H.YH.1 H.YH.2 (by exact h3) q fun m v g' aF s' q r nx=>?_;refine bc fun hn=>?_;revert r;refine cN q fun x q=>JC q fun l q r=>hn ?_;exact aR.on nx (H3 nx.inv nx.bJ r q.1) fun m oM ⟨e,e'⟩=>by rw[e,e'];exact q.2
theorem H9(H:iJ W N G)(IH:ek W d (ev G C n) (aH N aJ))(a:ix d 2 A)(I:Inv W g σ s.heap)(Ce:aS W g env ê s.heap){e:E}{x:Expr}(hc:aH N (aJ+1) env.scope.names (.pj e) x=true)
  (q:ev G C n e ê σ fun v ab=>fz v ab fun v' au=>jK v' fun x=>dL x fun l=>l.length<=ah/\Q (.d (.tuple l)) au):wpAny (model W.prog W.w) A (eval x env) (aR W env ê g σ s Q) NE s:=by
 refine gZ hc fun z np xs pos hc=>jh hc fun y hc=>iA hc fun h1 h2 h3=>?_;refine n9 (cX h1) fun uz hd _ _=>?_;subst uz;refine rQ H IH a I Ce hd h2 H.bt.1 H.bt.2 (by exact h3) q fun m v g' aF s' q r nx=>?_;refine lY (yM nx.inv nx.bJ r q) fun m' g2 tW q r2 nt iB=>?_;refine bc fun hn=>?_;revert r2;refine cN q fun x q=>JC q fun l q r2=>hn ?_;exact aR.on (nx.trans iB) (E0 iB.inv iB.bJ r2 q.1) fun m oM ⟨e,e'⟩=>by rw[e,e'];exact q.2
end
section
variable{W:Wd}{N:Nm}{G:Own}{A:Around}{s:Shared}{g:Gh}{σ:St}{env:Env}{ê:ak}{d n aJ:Nat}{C:Cl}{Q:KV}
theorem CC:BD=("append" :Str):=by decide+kernel
theorem CD:BE=("extend" :Str):=by decide+kernel
theorem KI:O7=("pop" :Str):=by decide+kernel
theorem CE:BF=("update" :Str):=by decide+kernel
theorem KJ:O8=("get" :Str):=by decide+kernel
theorem rR{v:Expr}{nm:Str}{env:Env}(h:pv v=true):attributeBase v nm env (eval v env)=eval v env:=by
 rcases v with _|_<;>first|rfl|exact ff h
theorem wi(I:Inv W g σ s.heap){m:ag}{v:Value}{P:Prop}(r:bG W g m v)(h:Bs m σ P):∃l,v=.ref l/\s.TypeIs v "list" /\(∀a,v=.ref a->∃ob,s.heap.get? a=some ob/\ob.dict=none)/\P:=by
 refine qS h fun c r' e h=>?_
 ·refine n8 (lA I r e) fun l ws k nY hg hr=>?_;subst nY;exact⟨l,rfl,(fP hg).typeIs,fun a e=>by rcases e with _|_;exact⟨_,hg,rfl⟩,h⟩
theorem GA{y:Expr}{pos:Pos}(h:notStar y=true):backTo pos (starEach [y] env)=[(false,eval y env)]:=by
 have es:starEach [y] env=[(false,eval y env)]:=lT h;rw[es];rfl
theorem Q2{y:Expr}{pos:Pos}(h:notStar y=true):((((backTo pos (starEach [y] env)).all fun x=> !x.fst)&&(backToKw pos (keywordEach [] env)).all fun x=>x.fst.isSome)&&decide (([y]:List Expr).length+([]:List Keyword).length+(if([]:List Keyword).isEmpty=true then 0 else 1)<30))=true:=by
 rw[GA h];rfl
theorem KN(H:iJ W N G)(IH:ek W d (ev G C n) (aH N aJ))(a:ix d 2 A)(I:Inv W g σ s.heap)(Ce:aS W g env ê s.heap){o y:E}{x:Expr}(hc:aH N (aJ+1) env.scope.names (.append o y) x=true)
  (q:ev G C n o ê σ fun v ab=>Bs v ab (ev G C n y ê ab fun w au=>xK v ab au (zf v w au fun eF=>Q (.d .none) eF))):wpAny (model W.prog W.w) A (eval x env) (aR W env ê g σ s Q) NE s:=by
 refine mE hc fun v m ap ws p hc=>jh hc fun w hc=>qn hc fun h1 h2 h3 h4 h5=>?_;have e1:=bj.mp h1;refine az (e1) ?_;refine az (CC) ?_;have h3:(notStar w&&aH N aJ env.scope.names y w&&true)=true:=h3;simp only[Bool.and_eq_true]at h3;refine bc fun bf=>?_;obtain⟨⟨s1,s2⟩,_⟩:=h3;refine bf ?_;refine wpAny_Call_method (rR h5) (Q2 s1) h2 PySem.F.plainAttrs_list PySem.F.slot_list_append PySem.F.type_list_append (aR.go (IH o v env ê g σ s _ A h4 a I Ce q) fun mo u g' aF s' q r nx=>?_);refine zb (wi nx.inv r q) fun l Kz ht hd q=>?_;subst Kz;refine⟨ht,hd,?_⟩;refine az (GA s1) ?_;refine PySem.P.append_list (aR.go (IH y w env ê g' aF s' _ A s2 a nx.inv nx.bJ q) fun my u' Pn oM Po q r' lM=>?_);refine bc fun bf=>?_;obtain⟨hv,q⟩:=f9 q;obtain⟨l',items,k,e,hz,hl,nZ,hk,k7⟩:=H4 lM.inv lM.bJ (lM.rep r hv) r' q;refine bf ?_;rcases e with _|_;exact⟨items,k,hz,hl,.d .none,_,nZ,hk,mM,(nx.trans lM).trans k7⟩
theorem U5(H:iJ W N G)(IH:ek W d (ev G C n) (aH N aJ))(a:ix d 2 A)(I:Inv W g σ s.heap)(Ce:aS W g env ê s.heap){o:E}{x:Expr}(hc:aH N (aJ+1) env.scope.names (.pop o) x=true)
  (q:ev G C n o ê σ fun v ab=>Qn v ab Q):wpAny (model W.prog W.w) A (eval x env) (aR W env ê g σ s Q) NE s:=by
 refine mE hc fun v m ap ws p hc=>tN hc fun hc=>l4 hc fun h1 h2 h4 h5=>?_;have e1:=bj.mp h1;refine az (e1) ?_;refine az (KI) ?_;refine wpAny_Call_method (rR h5) rfl h2 PySem.F.plainAttrs_list PySem.F.slot_list_pop PySem.F.type_list_pop (aR.go (IH o v env ê g σ s _ A h4 a I Ce q) fun mo u g' aF s' q r nx=>?_);refine Xu (QX nx.inv nx.bJ r q) fun l items k y YK hz hl hy out=>?_;subst YK;refine⟨(hl:IsL _ _ _ _).isList.typeIs,fun a e=>by rcases e with _|_;exact⟨_,hl,rfl⟩,?_⟩;exact PySem.P.pop_list hl hy (out.pre nx) hz
theorem KP(H:iJ W N G)(IH:ek W d (ev G C n) (aH N aJ))(a:ix d 2 A)(I:Inv W g σ s.heap)(Ce:aS W g env ê s.heap){o y:E}{x:Expr}(hc:aH N (aJ+1) env.scope.names (.extend o y) x=true)
  (q:ev G C n o ê σ fun v ab=>Bs v ab (ev G C n y ê ab fun w au=>zg v w au fun eF=>Q (.d .none) eF)):wpAny (model W.prog W.w) A (eval x env) (aR W env ê g σ s Q) NE s:=by
 refine mE hc fun v m ap ws p hc=>jh hc fun w hc=>qn hc fun h1 h2 h3 h4 h5=>?_;have e1:=bj.mp h1;refine az (e1) ?_;refine az (CD) ?_;have h3:(notStar w&&aH N aJ env.scope.names y w&&true)=true:=h3;simp only[Bool.and_eq_true]at h3;refine bc fun bf=>?_;obtain⟨⟨s1,s2⟩,_⟩:=h3;refine bf ?_;refine wpAny_Call_method (rR h5) (Q2 s1) h2 PySem.F.plainAttrs_list PySem.F.slot_list_extend PySem.F.type_list_extend (aR.go (IH o v env ê g σ s _ A h4 a I Ce q) fun mo u g' aF s' q r nx=>?_);refine zb (wi nx.inv r q) fun l Kz ht hd q=>?_;subst Kz;refine⟨ht,hd,?_⟩;refine az (GA s1) ?_;refine method1_meetsIn PySem.F.slot_list_extend PySem.F.entry_list_extend (aR.go (IH y w env ê g' aF s' _ A s2 a nx.inv nx.bJ q) fun my u' Pn oM Po q r' lM=>?_);have hv:kz mo=false:=by
  exact Jz q fun _ _=>rfl
 refine bc fun bf=>?_;obtain⟨l',b,e,e',items,jS,n1,n2,ob,hl,hb,hc,hd,hz,nZ,hk,k7⟩:=H7 lM.inv lM.bJ (lM.rep r (fun z=>by rw[hv]at z;rcases z with _|_)) r' q;refine bf ?_;rcases e with _|_;rcases e' with _|_;refine⟨(hl:IsL _ _ _ _).isList.typeIs,PySem.F.args_list_extend_2 _ _,_,Aj _ _ l b,items,jS,n1,n2,ob,hl,hb,hc,hd,hz,?_⟩;exact⟨.d .none,_,nZ,hk,mM,(nx.trans lM).trans k7⟩
theorem wk(I:Inv W g σ s.heap){m:ag}{v:Value}{P:Prop}(r:bG W g m v)(h:Bt m σ P):∃l,v=.ref l/\s.TypeIs v "dict" /\(∀a,v=.ref a->∃ob,s.heap.get? a=some ob/\ob.dict=none)/\P/\∃t,g.O l=t/\t≠.no:=by
 have fin:∀{p:Addr} {gM:List (Str×Value)},Heap.DictOf (strKind W.prog W.w) s.heap p gM->s.TypeIs (.ref p) "dict" /\(∀a,Value.ref p=.ref a->∃ob,s.heap.get? a=some ob/\ob.dict=none):=fun{p gM} hd=>by
  refine⟨hd.mapOf.typeIs,fun a e=>?_⟩;rcases e with _|_;refine n8 (hd) fun o es ep ho hx _=>?_;exact⟨o,ho,hx.2.1⟩
 refine Hj h fun l e hP=>?_
 ·induction m using ag.casesOn with
  |b i=>
   refine DQ (la I e) fun p gM e1 ho hd hr=>?_;refine bR (r) fun p' e2 jc=>?_;subst jc;obtain rfl:=Option.some.inj (Option.some.inj (e1.symm.trans e2));exact⟨_,rfl,(fin hd).1,(fin hd).2,hP,_,ho,fun z=>nomatch z⟩
  |t i=>
   refine ja (I.ct i _ e) fun p e1 UK _=>?_;obtain⟨ho,gM,hd,hr⟩:=UK;refine bR (r) fun p' e2 jc=>?_;subst jc;obtain rfl:=Option.some.inj (e1.symm.trans e2);exact⟨_,rfl,(fin hd).1,(fin hd).2,hP,_,ho,fun z=>nomatch z⟩
  |_=>exact Bp e
theorem KQ(H:iJ W N G)(IH:ek W d (ev G C n) (aH N aJ))(a:ix d 2 A)(I:Inv W g σ s.heap)(Ce:aS W g env ê s.heap){o y:E}{x:Expr}(hc:aH N (aJ+1) env.scope.names (.update o y) x=true)
  (q:ev G C n o ê σ fun v ab=>Bt v ab (ev G C n y ê ab fun w au=>xK v ab au (Qm v w au fun eF=>Q (.d .none) eF))):wpAny (model W.prog W.w) A (eval x env) (aR W env ê g σ s Q) NE s:=by
 refine mE hc fun v m ap ws p hc=>jh hc fun w hc=>qn hc fun h1 h2 h3 h4 h5=>?_;have e1:=bj.mp h1;refine az (e1) ?_;refine az (CE) ?_;have h3:(notStar w&&aH N aJ env.scope.names y w&&true)=true:=h3;simp only[Bool.and_eq_true]at h3;refine bc fun bf=>?_;obtain⟨⟨s1,s2⟩,_⟩:=h3;refine bf ?_;refine wpAny_Call_method (rR h5) (Q2 s1) h2 PySem.F.plainAttrs_dict PySem.F.slot_dict_update PySem.F.type_dict_update (aR.go (IH o v env ê g σ s _ A h4 a I Ce q) fun mo u g' aF s' q r nx=>?_);refine Td (wk nx.inv r q) fun l Kz ht hd q _=>?_;subst Kz;refine⟨ht,hd,?_⟩;refine az (GA s1) ?_;refine method1_meetsIn PySem.F.slot_dict_update PySem.F.entry_dict_update (aR.go (IH y w env ê g' aF s' _ A s2 a nx.inv nx.bJ q) fun my u' Pn oM Po q r' lM=>?_);refine bc fun bf=>?_;obtain⟨hv,q⟩:=f9 q;obtain⟨l',b,e,e',qQ,hsy,gM,more,d1,d2,hz,fin⟩:=H5 H lM.inv lM.bJ (lM.rep r hv) r' q;refine bf ?_;rcases e with _|_;rcases e' with _|_;refine⟨d1.mapOf.typeIs,PySem.F.args_dict_update_2 _ _,_,meets_dict_update (strKind W.prog W.w) l b qQ hsy,gM,more,d1,d2,hz,fun h' k1 k2 sb=>?_⟩;refine bR (fin h' k1 k2 sb) fun nZ hk k7=>?_;exact⟨.d .none,_,nZ,hk,mM,(nx.trans lM).trans k7⟩
end
section
variable{W:Wd}{N:Nm}{G:Own}{A:Around}{s:Shared}{g:Gh}{σ:St}{env:Env}{ê:ak}{d n aJ:Nat}{C:Cl}{Q:KV}
theorem wm{y z:Expr}{pos:Pos}(h:notStar y=true)(h':notStar z=true):backTo pos (starEach [y,z] env)=[(false,eval y env),(false,eval z env)]:=by
 have es:starEach [y,z] env=[(false,eval y env),(false,eval z env)]:=by rw[lT h,lT h'];rfl
 rw[es];rfl
theorem YN{y z:Expr}{pos:Pos}(h:notStar y=true)(h':notStar z=true):((((backTo pos (starEach [y,z] env)).all fun x=> !x.fst)&&(backToKw pos (keywordEach [] env)).all fun x=>x.fst.isSome)&&decide (([y,z]:List Expr).length+([]:List Keyword).length+(if([]:List Keyword).isEmpty=true then 0 else 1)<30))=true:=by
 rw[wm h h'];rfl
set_option tactic.hygienic true in
theorem U6(H:iJ W N G)(IH:ek W d (ev G C n) (aH N aJ))(a:ix d 2 A)(I:Inv W g σ s.heap)(Ce:aS W g env ê s.heap){o k y:E}{x:Expr}(hc:aH N (aJ+1) env.scope.names (.get o k y) x=true)
  (q:ev G C n o ê σ fun v ab=>Bt v ab<|ev G C n k ê ab fun w au=>ev G C n y ê au fun u eF=>xK w au eF (WR v fun i=>jK w fun y=>dS y fun a=>oD (aq eF.temps i) fun l=>match dF a l with
    |some y=>Q y eF
    |none=>Q u eF)):wpAny (model W.prog W.w) A (eval x env) (aR W env ê g σ s Q) NE s:=by
 refine mE hc fun v m ap ws p hc=>Gi hc fun w u hc=>qn hc fun h1 h2 h3 h4 h5=>?_;have e1:=bj.mp h1;refine az (e1) ?_;refine az (KJ) ?_;have h3:(notStar w&&aH N aJ env.scope.names k w&&(notStar u&&aH N aJ env.scope.names y u&&true))=true:=h3;simp only[Bool.and_eq_true]at h3;refine n7 (h3) fun zr0 zr1 _=>?_;have s1:=zr0.1;have s2:=zr0.2;have s3:=zr1.1;have s4:=zr1.2;refine wpAny_Call_method (rR h5) (YN s1 s3) h2 PySem.F.plainAttrs_dict PySem.F.slot_dict_get PySem.F.type_dict_get (aR.go (IH o v env ê g σ s _ A h4 a I Ce q) fun mo uo g' aF s' q1 r nx=>?_);refine bc fun bf=>?_;obtain⟨l,rfl,ht,hd,q2,tg,ho,qQ⟩:=wk nx.inv r q1;refine bf ?_;refine⟨ht,hd,?_⟩;refine az (wm s1 s3) ?_;refine wpAny_dict_get2 (knd:=strKind W.prog W.w) (Af H nx.inv ho qQ) (aR.go (IH k w env ê g' aF s' _ A s2 a nx.inv nx.bJ q2) fun mk uk g2 tW s2' q3 r2 iB=>?_);refine aR.go (IH y u env ê g2 tW s2' _ A s4 a iB.inv iB.bJ q3) fun my uy g3 nZ W8 q4 r3 k7=>?_;have Q3:=f9 q4;have hv:=Q3.1;have q5:=Q3.2;clear Q3;have rk:=k7.rep r2 hv;refine bc fun hn=>?_;clear ht hd ho qQ q2;revert r rk;refine Jz q5 fun i q5=>cN q5 fun z q5=>JA q5 fun aa q5=>Hj q5 fun dl e q5 r rk=>hn ?_
 ·refine bx rk fun t=>?_
  ·refine ja (k7.inv.ct i _ e) fun p f1 UK _=>?_;refine bc fun bf=>?_;obtain⟨_,gM,YO,hr⟩:=UK;refine bf ?_;have YO:Heap.DictOf (strKind W.prog W.w) W8.heap p gM:=YO;refine bR (k7.rep (iB.rep r (fun z=>nomatch z)) (fun z=>nomatch z)) fun p' f2 e'=>?_;rw[f1]at f2;rcases f2 with _|_;rcases e' with _|_
   refine⟨aa,_,tU _ _ _ _,YO.mapOf,?_⟩;have hg:=pD (x:=aa) hr;have nxa:dP W env ê g3 nZ W8 g3 nZ {W8 with toks:=W8.toks+1}:=dP.ki k7.inv k7.bJ (fun _ _ e=>e) rfl rfl;split at q5
   ·rename_i mm em;rw[em]at hg;refine bR (hg) fun vv ev' rv=>?_;refine az (ev') ?_;exact⟨mm,g3,nZ,q5,rv,((nx.trans iB).trans k7).trans nxa⟩
   ·rename_i em;rw[em]at hg;refine az (hg) ?_;exact⟨my,g3,nZ,q5,r3,((nx.trans iB).trans k7).trans nxa⟩
theorem GB(IH:ek W d (ev G C n) (aH N aJ))(a:ix d 2 A)(I:Inv W g σ s.heap)(Ce:aS W g env ê s.heap){o:Option E}{x:Option Expr}{Q:Option ag->St->Prop}(hc:M6 (aH N aJ env.scope.names) o x=true)(q:TP (ev G C n) o ê σ Q){R:Value->Shared->Prop}
  (k:∀m v g' aF s',Q m aF->(match m with|none=>v=.none|some m=>bG W g' m v)->dP W env ê g σ s g' aF s'->R v s'):wpAny (model W.prog W.w) A (evalPart x env) R NE s:=by
 induction o using Option.casesOn with
 |none=>
  induction x using Option.casesOn with
  |none=>exact wpAny_pure (k none _ g σ s q rfl (dP.refl I Ce))
  |some x=>cases hc
 |some e=>
  induction x using Option.casesOn with
  |none=>cases hc
  |some x=>exact aR.go (IH e x env ê g σ s _ A hc a I Ce q) fun m v g' aF s' q r nx=>k (some m) v g' aF s' q r nx
theorem yN{v:Option ag}{K:Option Nat->Prop}(h:JF v K):∃n,K n/\match n with|none=>v=none|some n=>n<=ah/\v=some (.d (.int (n:Int))):=by
 induction v using Option.casesOn with
 |none=>exact⟨none,h,rfl⟩
 |some v=>exact cN h fun x h=>ui h fun k h=>JD h fun n h=>⟨some n,h.2,h.1,rfl⟩
theorem KR {T:String} (h:T= "list" \/T= "tuple"):∃id,typeLookup (.type T) (Str.ofString "__getitem__")=pure (some (.builtin id)):=by
 rcases h with rfl|rfl
 ·exact⟨_,PySem.slot_list_getitem.lookup⟩
 ·exact⟨_,slot_tuple_getitem.lookup⟩
theorem U7(H:iJ W N G)(IH:ek W d (ev G C n) (aH N aJ))(a:ix d 2 A)(I:Inv W g σ s.heap)(Ce:aS W g env ê s.heap){o:E}{lo hi:Option E}{x:Expr}(hc:aH N (aJ+1) env.scope.names (.DT o lo hi) x=true)
  (q:ev G C n o ê σ fun v ab=>TP (ev G C n) lo ê ab fun a au=>TP (ev G C n) hi ê au fun b eF=>
   JF a fun a'=>JF b fun b'=>Qj v a' b' fun x=>Q x eF):wpAny (model W.prog W.w) A (eval x env) (aR W env ê g σ s Q) NE s:=by
 refine pn hc fun v sl pos hc=>yA hc fun l u st p hc=>qX hc fun hc=>iA hc fun h1 h2 h3=>?_;refine Subscript_ (aR.go (IH o v env ê g σ s _ A h1 a I Ce q) fun m v0 g1 W7 s1 q r nx=>?_);refine wpAny_Slice (GB IH a nx.inv nx.bJ h2 q fun ma va g2 tW s2 q ra iB=>?_);refine GB IH a iB.inv iB.bJ h3 q fun mb vb g3 nZ s3 q rb k7=>?_;refine wpAny_pure ?_;refine bR (yN q) fun na q ea=>?_;refine bR (yN q) fun nb q eb=>?_;have Ib:dP W env ê g3 nZ s3 g3 nZ {s3 with heap:=s3.heap.push {cls:=.type "slice",data:=.fields #[va,vb,.none]}}:=dP.ki k7.inv k7.bJ (fun b o e=>Heap.get?_push_of_some _ e) rfl rfl;have hm:kz m=false:=by
  exact cN q fun _ _=>rfl
 have rm:=k7.rep (iB.rep r (fun z=>by rw[hm]at z;rcases z with _|_)) (fun z=>by rw[hm]at z;rcases z with _|_);have ra':Nt va na:=by
  induction na using Option.casesOn with
  |none=>subst ea;exact ra
  |some na=>obtain⟨_,rfl⟩:=ea;exact i6 (show dQ g2.B (.int (na:Int)) va from ra)
 have rb':Nt vb nb:=by
  induction nb using Option.casesOn with
  |none=>subst eb;exact rb
  |some nb=>obtain⟨_,rfl⟩:=eb;exact i6 (show dQ g3.B (.int (nb:Int)) vb from rb)
 refine bc fun bf=>?_;obtain⟨⟨T,hT,ht⟩,hw⟩:=QU (A:=A) (W:=W) (ê:=ê) (env:=env) (v:=v0) (sl:=s3.heap.objs.size) Ib.inv Ib.bJ rm q ra' rb' (Heap.IsSliceOf.new _ _ _ _);obtain⟨id,hl⟩:=KR hT;refine bf ?_;refine tail_any (ops:=[.ref s3.heap.objs.size,v0]) ht hl ?_ rfl;exact aR.on (((nx.trans iB).trans k7).trans Ib) hw fun m oM ⟨e,k⟩=>e▸k
end
noncomputable def Nx(W:Wd)(g:Gh)(σ:St)(s:Shared)(Q:KV):Result->Shared->Prop:=fun r s'=>match r with
 |.ok (.ret v)=>∃m g' aF,Q m aF/\ke m=true/\bG W g' m v/\Inv W g' {aF with temps:=σ.temps} s'.heap/\gf g σ s.heap g' {aF with temps:=σ.temps} s'.heap/\s'.gens=s.gens/\s'.os=s.os
 |_=>False
noncomputable def wo(W:Wd)(d:Nat)(C:Cl):Prop:=
 ∀(f:Nat) (vs:List ag) (vals:List Value) (g:Gh) (σ:St) (s:Shared) (A:Around) (Q:KV),ix d 1 A->Inv W g σ s.heap->cc W g vs vals->jf vs=true->C f vs {σ with temps:=[]} Q->
  codeAny (model W.prog W.w) A (.call (.ref (W.fa f)) ⟨vals,[]⟩) (Nx W g σ s Q) s
section
variable{W:Wd}{N:Nm}{G:Own}{A:Around}{s:Shared}{g:Gh}{σ:St}{env:Env}{ê:ak}{d n aJ:Nat}{C:Cl}{Q:KV}
theorem Ao(H:iJ W N G)(IH:ek W d (ev G C n) (aH N aJ))(a:ix d 2 A)(I:Inv W g σ s.heap)(Ce:aS W g env ê s.heap){pos:Pos}{l:List E}{xs:List Expr}{f:Value}{R:Args->Shared->Prop}{Q:List ag->St->Prop}(hc:jG (aH N aJ env.scope.names) l xs=true)(q:DI (ev G C n) l ê σ Q)
  (k:∀ms vs g' aF s',Q ms aF->cc W g' ms vs->jf ms=true->dP W env ê g σ s g' aF s'->R ⟨vs,[]⟩ s'):wpAny (model W.prog W.w) A (evalArgs f true (backTo pos (starEach xs env)) []) R NE s:=by
 induction xs using List.casesOn with
 |nil=>
  induction l using List.casesOn with
  |nil=>exact evalArgs_nil3 (k [] [] g σ s q trivial rfl (dP.refl I Ce))
  |cons _ _=>cases hc
 |cons x xs=>
  induction l using List.casesOn with
  |nil=>cases hc
  |cons e es=>
   have hc':(notStar x&&aH N aJ env.scope.names e x&&jG (aH N aJ env.scope.names) es xs)=true:=hc;simp only[Bool.and_eq_true]at hc';have Ny:backTo pos (starEach (x::xs) env)=(false,eval x env)::backTo pos (starEach xs env):=by rw[lT hc'.1.1];rfl
   have:=An (pos:=pos) H IH a (e::es) (x::xs) g σ s Q hc I Ce q;rw[Ny]at this⊢;exact evalArgs_plain (EP.go this fun ms vs g' aF s' ⟨_,q⟩ r nt nx=>k ms vs g' aF s' q r nt nx)
theorem Fe{pos:Pos}{ck:E->Expr->Bool}:∀{l:List E} {xs:List Expr},jG ck l xs=true->((backTo pos (starEach xs env)).any fun x=>x.1)=false:=by
 intro l0
 induction l0 with
 |nil=>
  intro l1;rcases l1 with _|⟨y0,nR⟩
  ·intro _;exact rfl
  ·intro h;cases h
 |cons e es ih=>
  intro l1;rcases l1 with _|⟨x,xs⟩
  ·intro h;cases h
  ·intro h;have h:(notStar x&&ck e x&&jG ck es xs)=true:=h;simp only[Bool.and_eq_true]at h;have Ny:backTo pos (starEach (x::xs) env)=(false,eval x env)::backTo pos (starEach xs env):=by rw[lT h.1.1];rfl
   rw[Ny,List.any_cons,ih h.2];rfl
theorem CF(H:iJ W N G)(HC:wo W d C)(a:ix d 2 A)(I:Inv W g σ s.heap)(Ce:aS W g env ê s.heap){f:Nat}{ms:List ag}{vs:List Value}(r:cc W g ms vs)(nt:jf ms=true)
  (q:C f ms {σ with temps:=[]} fun v au=>pR ê σ au (Q v {au with temps:=σ.temps})):wpAny (model W.prog W.w) A (call (.ref (W.fa f)) vs) (aR W env ê g σ s Q) NE s:=by
 refine wpAny_call (codeAny_mono (HC f ms vs g σ s A _ (a.le (by omega)) I r nt q) fun r s' h=>?_);unfold Nx at h;split at h
 ·refine Tj (h) fun m g' aF q _ rm I' P hg ho=>?_;have KA:=mK q;have hv:=KA.1;have q:=KA.2;clear KA;exact⟨m,g',_,q,rm,I',Ce.post P hv,P,hg,ho⟩
 ·exact h.elim
theorem Q4(H:iJ W N G)(HC:wo W d C)(IH:ek W d (ev G C n) (aH N aJ))(a:ix d 2 A)(I:Inv W g σ s.heap)(Ce:aS W g env ê s.heap){f:Nat}{l:List E}{x:Expr}(hc:aH N (aJ+1) env.scope.names (.call f l) x=true)
  (q:DI (ev G C n) l ê σ fun vs ab=>C f vs {ab with temps:=[]} fun v au=>pR ê ab au (Q v {au with temps:=ab.temps})):wpAny (model W.prog W.w) A (eval x env) (aR W env ê g σ s Q) NE s:=by
 refine gZ hc fun z np xs pos hc=>l4 hc fun h1 h2 h3 h4=>?_;refine n9 (cX h1) fun uz hd he _=>?_;subst uz;refine wpAny_Call_ofName (mO H I Ce h2 hd (H.fn f he) ?_);refine n6 (H.QK f) fun o fd ho KS=>?_;refine callWith_function (o:=o) (fd:=fd) (Ao H IH a I Ce h3 q fun ms vs g' aF s' q r nt nx=>?_);exact⟨⟨nx.inv.gP _ _ (nx.inv.fT _ _ ho),KS⟩,aR.on nx (CF H HC a nx.inv nx.bJ r nt q) fun _ _ k=>k⟩
theorem Nz(H:iJ W N G)(HC:wo W d C)(IH:ek W d (ev G C n) (aH N aJ))(a:ix d 2 A)(I:Inv W g σ s.heap)(Ce:aS W g env ê s.heap){o:E}{l:List E}{x:Expr}(hc:aH N (aJ+1) env.scope.names (.tH o l) x=true)
  (q:ev G C n o ê σ fun v JJ=>XF v fun f=>DI (ev G C n) l ê JJ fun vs ab=>C f vs {ab with temps:=[]} fun v au=>pR ê ab au (Q v {au with temps:=ab.temps})):wpAny (model W.prog W.w) A (eval x env) (aR W env ê g σ s Q) NE s:=by
 refine vr hc fun fe xs ks pos hc=>pn hc fun v w p hc=>tN hc fun hc=>iA hc fun h1 h2 h3=>?_;show wpAny _ A (do callWith pos (<-eval (.Subscript v w p) env) [] (backTo pos (starEach xs env)) (backToKw pos (keywordEach [] env))) _ _ s;refine wpAny_bind (aR.go (IH o _ env ê g σ s _ A h1 a I Ce q) fun m v0 g1 W7 s1 q1 r1 YQ=>?_);revert r1;refine TG q1 fun f q1 r1=>?_
 ·rcases r1 with _|_;refine n6 (H.QK f) fun ob fd ho KS=>?_;refine callWith_function (o:=ob) (fd:=fd) (Ao H IH a YQ.inv YQ.bJ h2 q1 fun ms vs g' aF s' q r nt nx=>?_);exact⟨⟨nx.inv.gP _ _ (nx.inv.fT _ _ ho),KS⟩,aR.on (YQ.trans nx) (CF H HC a nx.inv nx.bJ r nt q) fun _ _ k=>k⟩
theorem Ic{A:Around}{C:Addr}{rest:List Value}(a:ix d 2 A):ix d 1 (A.under (.builtin "type.__call__" ⟨.ref C::rest,[]⟩)):=by
 have h1:(A.under (.builtin "type.__call__" ⟨.ref C::rest,[]⟩)).depth=A.depth+1:=rfl;have h2:(A.under (.builtin "type.__call__" ⟨.ref C::rest,[]⟩)).units=A.units+1:=by
  have:(Code.builtin "type.__call__" ⟨.ref C::rest,[]⟩).cUnits=1:=by kernel_rfl
  show A.units+_=_;rw[this]
 have h3:(A.under (.builtin "type.__call__" ⟨.ref C::rest,[]⟩)).guards=A.guards:=rfl;refine⟨a.handled,?_,?_,h3.trans a.guards⟩
 ·rw[h1];have:=a.depth;exact ai this
 ·rw[h2];have:=a.units;exact ai this
theorem NB{h h':Heap}(I:Inv W g σ h)(Ce:aS W g env ê h){p:Addr×Addr}{k slot:Nat}{K:KV}(k₁:∀b o,h.get? b=some o->h'.get? b=some o)(Qq:h.get? p.1=none)(Bh:h.get? p.2=none)(ne:p.1≠p.2)(h1:h'.get? p.1=some (instObj (W.ca k) p.2))(h2:h'.get? p.2=some jT)
  (q:pS (.base [slot]) (.inst k []) ê σ K):∃m g' aF,K m aF/\ke m=true/\bG W g' m (.ref p.1)/\RM W g g'/\Inv W g' aF h'/\aS W g' env ê h'/\gf g σ h g' aF h':=by
 have hc:∀g':Gh,∀i,g'.O p.1=.b i->g'.O p.2=.b i->dr W g' h' (.b i) (.inst k []) p:=fun g' i a b=>⟨a,b,ne,h1,[],0,h2,trivial⟩;refine lN q fun i CB q=>?_
 ·have hT:DV (.inst k [])=true:=rfl;have q:SM (Bg i) (SK (iP ê) (K (.b i) {σ.lj i (some (.inst k []))with gen:=σ.gen+1})) (K (.b i) {σ.lj i (some (.inst k []))with gen:=σ.gen}):=q;cases hw:Bg i<;>rw[hw]at q
  ·refine zb (I.n4 (o:=.inst k []) (p:=p) (γ:=σ.gen) k₁ (js CB) Qq Bh ⟨_,h1⟩ ⟨_,h2⟩ (fun g' rm z z'=>hc g' i z z') hT (Nat.le_refl _)) fun g' rm e I' P=>?_;exact⟨_,g',_,q,rfl,⟨_,e,rfl⟩,rm,I',Ce.post P fun _=>rfl,P⟩
  ·refine Bq q fun hv q=>?_
   ·refine zb (I.n4 (o:=.inst k []) (p:=p) (γ:=σ.gen+1) k₁ (js CB) Qq Bh ⟨_,h1⟩ ⟨_,h2⟩ (fun g' rm z z'=>hc g' i z z') hT (Nat.le_succ _)) fun g' rm e I' P=>?_;exact⟨_,g',_,q,rfl,⟨_,e,rfl⟩,rm,I',Ce.post P (fun z=>by rw[hv]at z;rcases z with _|_),P⟩
theorem U8(H:iJ W N G)(HC:wo W d C)(IH:ek W d (ev G C n) (aH N aJ))(a:ix d 2 A)(I:Inv W g σ s.heap)(Ce:aS W g env ê s.heap){k slot:Nat}{l:List E}{x:Expr}(hc:aH N (aJ+1) env.scope.names (.new k slot l) x=true)
  (q:DI (ev G C n) l ê σ fun vs ab=>pS (.base [slot]) (.inst k []) ê ab fun o au=>
   C (G.init k) (o::vs) {au with temps:=[]} fun v eF=>jK v fun x=>dN x (xK o au eF (pR ê au eF (Q o {eF with temps:=au.temps})))):wpAny (model W.prog W.w) A (eval x env) (aR W env ê g σ s Q) NE s:=by
 refine gZ hc fun z np xs pos hc=>l4 hc fun h1 h2 h3 h4=>?_;refine n9 (cX h1) fun uz hd he _=>?_;subst uz;refine wpAny_Call_ofName (mO H I Ce h2 hd (H.cls k he) ?_);refine callWith_of (P:=fun h=>W.K.In h) ?_ (keeps_K (H.ckp k)) (Ao H IH a I Ce h3 q fun ms vs g1 W7 s1 q1 r nt nx=>?_)
 ·rw[Fe h3];rfl
 have X:=Ag H nx.inv;refine⟨X,wpAny_call ?_⟩;refine bc fun bf=>?_;obtain⟨hh,gg,dd,tt,oo⟩:=s1;refine bf ?_;refine make_core (makes_of X (H.cmk k)) (looks_findIn X (H.cin k)) (fun self=>bind_fn X self (H.cfn k)) (.inl rfl) ?_;have Qq:hh.get? (hh.objs.size+1)=none:=by
  cases q:hh.get? (hh.objs.size+1)with
  |none=>rfl
  |some o=>exact absurd (Heap.lt_size q) (Nat.not_lt.mpr (Nat.le_succ _))
 have Bh:hh.get? hh.objs.size=none:=cY hh;have kk:∀b o,hh.get? b=some o->((hh.push jT).push (instObj (W.ca k) hh.objs.size)).get? b=some o:=fun b o e=>Heap.get?_push_of_some _ (Heap.get?_push_of_some _ e);have hx:((hh.push jT).push (instObj (W.ca k) hh.objs.size)).get? (hh.objs.size+1)=some (instObj (W.ca k) hh.objs.size):=by
  have:=Heap.get?_push_size (hh.push jT) (o:=instObj (W.ca k) hh.objs.size) rfl;rwa[Heap.size_push]at this
 have hdx:((hh.push jT).push (instObj (W.ca k) hh.objs.size)).get? hh.objs.size=some jT:=Heap.get?_push_of_some _ (Heap.get?_push_size _ rfl);refine Tj (NB (p:=(hh.objs.size+1,hh.objs.size)) nx.inv nx.bJ kk Qq Bh (Nat.succ_ne_self _) hx hdx q1) fun m g2 tW q2 nt2 r2 rm2 I2 C2 P2=>?_;refine codeAny_mono (HC (G.init k) (m::ms) (.ref (hh.objs.size+1)::vs) g2 tW ⟨_,gg,dd,tt,oo⟩ _ _ (Ic a) I2 ⟨r2,r.rm rm2⟩ (qF nt2 nt) q2) fun res s' h=>?_;unfold Nx at h;split at h
 ·rename_i v;refine bc fun bf=>?_;obtain⟨mv,g3,nZ,q3,_,rv,I3,P3,hg,ho⟩:=h;refine bf ?_;revert rv;refine cN q3 fun x q3=>Qi q3 fun q3 rv=>?_
  ·refine dR rv ?_;refine⟨rfl,?_⟩;refine bc fun bf=>?_;obtain⟨hv,q4⟩:=f9 q3;obtain⟨Q5,q5⟩:=mK q4;refine bf ?_;have k7:dP W env ê g2 tW ⟨_,gg,dd,tt,oo⟩ g3 _ s':=⟨I3,C2.post P3 Q5,P3,hg,ho⟩;have iB:dP W env ê g1 W7 ⟨hh,gg,dd,tt,oo⟩ g2 tW ⟨_,gg,dd,tt,oo⟩:=⟨I2,C2,P2,rfl,rfl⟩;exact⟨m,g3,_,q5,r2.mono P3 hv,(nx.trans iB).trans k7⟩
 ·exact h.elim
end
structure CG(W:Wd)(A:Around)(w:Option (Nat×List D))(xs:List D)(Ia:Addr)(It:Nat->Heap->Prop)(Rel:Gh->Prop):Prop where
 fr:∀k h h',It k h->(∀o,h.get? Ia=some o->h'.get? Ia=some o)->It k h'
 mono:∀g g',(∀m v,kz m=false->bG W g m v->bG W g' m v)->Rel g->Rel g'
 live:∀k h,It k h->∃o,h.get? Ia=some o
 item:∀k g σ (s:Shared) x (Q:Option Value->Shared->Prop) (E:Value->Shared->Prop),It k s.heap->Inv W g σ s.heap->Rel g->jg w σ True->g.O Ia=.no->g.B.get? Ia=none->aq xs k=some x->
  (∀v h' tk,dQ g.B x v->It (k+1) h'->(∀b o,b≠Ia->s.heap.get? b=some o->h'.get? b=some o)->Q (some v) {s with heap:=h',toks:=tk})->wpAny (model W.prog W.w) A (pyNext (.ref Ia)) Q E s
 done:∀g σ (s:Shared) (Q:Option Value->Shared->Prop) (E:Value->Shared->Prop),It xs.length s.heap->Inv W g σ s.heap->Rel g->jg w σ True->g.O Ia=.no->g.B.get? Ia=none->
  (∀h' tk,(∀b o,b≠Ia->s.heap.get? b=some o->h'.get? b=some o)->Q none {s with heap:=h',toks:=tk})->wpAny (model W.prog W.w) A (pyNext (.ref Ia)) Q E s
 go:∀k (s:Shared) target v (Q:Unit->Shared->Prop) (E:Value->Shared->Prop),It k s.heap->Q () s->wpAny (model W.prog W.w) A (letOwnedTupleGo target (.ref Ia) v) Q E s
 self:∀k (s:Shared) (Q:Value->Shared->Prop) (E:Value->Shared->Prop),It k s.heap->Q (.ref Ia) s->wpAny (model W.prog W.w) A (pyIter (.ref Ia)) Q E s
section
variable{W:Wd}{N:Nm}{G:Own}{A:Around}{s:Shared}{g:Gh}{σ:St}{env:Env}{ê:ak}{d n aJ:Nat}{C:Cl}{Q:KV}
set_option backward.match.sparseCases true in
set_option tactic.hygienic true in
theorem KU{prog:Program}{w:World}{E:Value->Shared->Prop}{Ia:Addr}{o:Obj}{T:String}{vs:Array Value}{target:Expr}{v:Value}{Q:Unit->Shared->Prop}(ho:s.heap.get? Ia=some o)(hc:o.cls=.type T)(hd:o.data=.fields vs)
  (hT:(["enumerate", "zip", "dict_itemiterator", "dict_reverseitemiterator", "odict_iterator", "itertools.zip_longest", "itertools.pairwise"].contains T)=false) (q:Q () s):wpAny (model prog w) A (letOwnedTupleGo target (.ref Ia) v) Q E s:=by
 have key:∀a,wpAny (model prog w) A (do
   let o <-load Ia
   match o.cls,o.data with
   |.type n,.fields vs=>
    if["enumerate", "zip", "dict_itemiterator", "dict_reverseitemiterator", "odict_iterator", "itertools.zip_longest", "itertools.pairwise"].contains n&&vs[0]?==some (rawInt a)then
     rule "for.unpacks-the-owned-tuple"
     updateField Ia 0 .none
   |_,_=>pure ()) Q E s:=fun a=>by
  refine wpAny_bind (wpAny_load ho ?_);refine az (hc) ?_;refine az (hd) ?_;simp only[hT,Bool.false_and,Bool.false_eq_true,if_false];exact wpAny_pure q
 unfold letOwnedTupleGo;split
 ·split
  ·rename_i r a e;rcases e with _|_;exact key a
  ·exact wpAny_pure q
 ·split
  ·rename_i r a e;rcases e with _|_;exact key a
  ·exact wpAny_pure q
 ·exact wpAny_pure q
inductive Ap:ag->List D->Option (Nat×List D)->Prop
 |dat (l:List D):Ap (.d (.list l)) l none
 |cell (i:Nat) (r:List D):Bg i=false->Ap (.b i) r.reverse (some (i,r))
theorem wq{m:ag}{xs:List D}{w:Option (Nat×List D)}(S:Ap m xs w)(I:Inv W g σ s.heap){ax:Addr}(r:bG W g m (.ref ax))(h:jg w σ True):∃ws,s.heap.IsList ax (List.toArray ws)/\cc W g (xs.map ag.d) ws:=by
 induction S using Ap.casesOn with
 |dat l=>
  refine n8 (lz r) fun a vs as e ha r1=>?_;rcases e with _|_;exact⟨vs,bZ I.gP ha,vj r1⟩
 |cell i r' hv=>
  obtain⟨e,_⟩:=h;refine lY (ij I e) fun p ws k e1 _ hg hr=>?_;refine bR (r) fun p' e2 e3=>?_;obtain rfl:=Option.some.inj (Option.some.inj (e1.symm.trans e2));rcases e3 with _|_;rw[jL]at hr;exact⟨ws,fP hg,hr⟩
theorem KW{m:ag}{xs:List D}{w:Option (Nat×List D)}(S:Ap m xs w):kz m=false:=by
 induction S using Ap.casesOn with
 |dat l=>rfl
 |cell i r hv=>exact hv
theorem yO{α β:Type}{f:α->β}:∀{l:List α} {k:Nat} {x:α},aq l k=some x->aq (l.map f) k=some (f x)
 |_::_,0,_,e=>by rcases e with _|_;rfl
 |_::l,k+1,_,e=>yO (l:=l) e
theorem Ff(hh:A.handled=none){m:ag}{xs:List D}{w:Option (Nat×List D)}(S:Ap m xs w){ax Ia:Addr}(qQ:ax≠Ia):CG W A w xs Ia (fun k h=>h.IsListIter Ia ax k) (fun g=>bG W g m (.ref ax)) where
 fr k h h' st kk:=st.at kk
 mono g g' k r:=k _ _ (KW S) r
 live k h st:=by obtain⟨o,ho,_⟩:=st;exact⟨o,ho⟩
 item k g σ s x Q E st I rel ok hO hB hx hQ:=by
  refine bR (wq S I rel ok) fun ws hl hr=>?_;refine bR (wa hr (yO hx)) fun v h1 h2=>?_;refine wpAny_pyNext_list_item st hl (x:=v) (by simpa using h1) fun h' KX U9=>?_;exact hQ v h' s.toks h2 KX fun b o hb e=>U9.extBut b o hb e
 done g σ s Q E st I rel ok hO hB hQ:=by
  refine bR (wq S I rel ok) fun ws hl hr=>?_;have e:=d7 hr;rw[List.length_map]at e;exact wpAny_pyNext_list_end hh st hl (by simp[e]) fun h' Va=>hQ h' s.toks fun b o hb e=>Va b o hb e
 go k s target v Q E st q:=by
  refine ja (st) fun o ho hc hd=>?_;exact KU ho hc hd (by decide) q
 self k s Q E st q:=wpAny_pyIter_listiter st q
theorem CH(hh:A.handled=none){xs:List D}{ax Ia:Addr}(qQ:ax≠Ia):CG W A none xs Ia (fun k h=>h.IsTupleIter Ia ax k) (fun g=>bG W g (.d (.tuple xs)) (.ref ax)) where
 fr k h h' st kk:=st.at kk
 mono g g' k r:=k _ _ rfl r
 live k h st:=by obtain⟨o,ho,_⟩:=st;exact⟨o,ho⟩
 item k g σ s x Q E st I rel ok hO hB hx hQ:=by
  refine n8 (gV rel) fun a vs as e ha r1=>?_;rcases e with _|_;refine bR (oF r1 hx) fun v h1 h2=>?_;refine wpAny_pyNext_tuple_item st (cC I.gP ha) (x:=v) (by simpa using h1) fun h' KX U9=>?_;exact hQ v h' s.toks h2 KX fun b o hb e=>U9.extBut b o hb e
 done g σ s Q E st I rel ok hO hB hQ:=by
  refine n8 (gV rel) fun a vs as e ha r1=>?_;rcases e with _|_;have e:=readsAll_len r1;exact wpAny_pyNext_tuple_end hh st (cC I.gP ha) (by simp[e]) fun h' Va=>hQ h' s.toks fun b o hb e=>Va b o hb e
 go k s target v Q E st q:=by
  refine ja (st) fun o ho hc hd=>?_;exact KU ho hc hd (by decide) q
 self k s Q E st q:=wpAny_pyIter_tupleiter st q
theorem Ie{n k:Nat}{x:D}(h:aq (eM n) k=some x):k<n/\x=.int (k:Int):=by
 unfold eM at h;rw[vf,List.getElem?_map]at h;cases q:(List.range n)[k]? with
 |none=>rw[q]at h;cases h
 |some j=>
  rw[q]at h;obtain⟨h1,h2⟩:=List.getElem?_eq_some_iff.mp q;rw[List.length_range]at h1;rw[List.getElem_range]at h2;subst h2;rcases h with _|_;exact⟨h1,rfl⟩
theorem wt(n:Nat):(eM n).length=n:=by unfold eM;rw[List.length_map,List.length_range]
theorem CI(hh:A.handled=none){n:Nat}{Ia:Addr}:CG W A none (eM n) Ia (fun k h=>IsRangeIter h Ia (k:Int) ((n:Int)-(k:Int)) 1) (fun _=>True) where
 fr k h h' st kk:=kk _ st
 mono g g' k r:=trivial
 live k h st:=⟨_,st⟩
 item k g σ s x Q E st I rel ok hO hB hx hQ:=by
  obtain⟨p9,rfl⟩:=Ie hx;refine wpAny_pyNext_range_item st (by omega) fun h' KX U9=>?_;refine hQ _ h' _ (ig _ _) ?_ fun b o hb e=>U9.extBut b o hb e;have e2:(n:Int)-((k+1:Nat):Int)=(n:Int)-(k:Int)-1:=by push_cast;omega
  have e1:((k+1:Nat):Int)=(k:Int)+1:=by push_cast;rfl
  rw[e2,e1];exact KX
 done g σ s Q E st I rel ok hO hB hQ:=by
  have e:=wt n;rw[e]at st;exact wpAny_pyNext_range_end hh st (by omega) fun h' Va=>hQ h' s.toks fun b o hb e=>Va b o hb e
 go k s target v Q E st q:=by
  exact KU st rfl rfl (by decide) q
 self k s Q E st q:=wpAny_pyIter_rangeiter st q
noncomputable def KY(W:Wd)(A:Around)(env:Env)(ê:ak)(g:Gh)(σ:St)(s:Shared)(K:List D->Option (Nat×List D)->St->Prop):Value->Shared->Prop:=fun it pX=>
 ∃xs w cD ab bQ Ia It Rel,it=.ref Ia/\K xs w ab/\dP W env ê g σ s cD ab bQ/\CG W A w xs Ia It Rel/\It 0 pX.heap/\Rel cD/\bQ.heap.get? Ia=none/\xs.length<=ah/\
  (∀b o,bQ.heap.get? b=some o->pX.heap.get? b=some o)/\pX.gens=bQ.gens/\pX.os=bQ.os/\jg w ab True
theorem KZ(h:Heap):h.get? (h.objs.size+1)=none:=by
 cases q:h.get? (h.objs.size+1)with
 |none=>rfl
 |some o=>exact absurd (Heap.lt_size q) (Nat.not_lt.mpr (Nat.le_succ _))
theorem K1(H:iJ W N G)(IH:∀m,m<=n->ek W d (ev G C n) (aH N m))(qg:aJ<=n)(a:ix d 2 A)(I:Inv W g σ s.heap)(Ce:aS W g env ê s.heap){it:E}{x:Expr}{K:List D->Option (Nat×List D)->St->Prop}(hc:aH N aJ env.scope.names it x=true)
  (q:mA (ev G C n) it ê σ K):wpAny (model W.prog W.w) A (eval x env) (fun v s'=>wpAny (model W.prog W.w) A (pyIter v) (KY W A env ê g σ s K) NE s') NE s:=by
 unfold mA at q;rcases hz:JH it with _|e<;>rw[hz]at q
 case some=>
  have hz:=J8 hz;subst hz
  induction aJ using Nat.casesAuxOn with
  |zero=>cases hc
  |succ aJ=>
  refine gZ hc fun z np xs pos hc=>jh hc fun y hc=>iA hc fun h1 h2 h3=>?_;refine n9 (cX h1) fun uz hd _ _=>?_;subst uz;refine rQ H (IH aJ (Nat.le_of_succ_le qg)) a I Ce hd h2 H.br.1 H.br.2 (by exact h3) q fun m v g' aF s' q r nx=>?_;refine bc fun hn=>?_;revert r;refine cN q fun z q=>ui q fun k q=>JD q fun k q r=>hn ?_
  · refine aK r fun t=>?_
    ·obtain⟨hb,q⟩:=dw q;refine call_range_1 ?_;have hr:=IsRange.new s'.heap 0 (Int.ofNat k) 1 s'.toks t (s'.toks+1);have hk:(k:Int)<=1000000:=by have:k<=1000000:=hb;omega
     refine wpAny_pyIter_range (s:={s' with heap:=s'.heap.push {cls:=.type "range",data:=.fields #[.int 0 s'.toks,.int (Int.ofNat k) t,.int 1 (s'.toks+1)]},toks:=s'.toks+1+1}) hr (small_one (by decide) (by decide) (by show -(2 ^ 62)<=(k:Int);omega) (by show(k:Int)<2 ^ 62;omega)) ?_;have e1:Builtin.Range.rangeSize 0 (Int.ofNat k) 1=(k:Int):=by
      rw[rangeSize_one];show(if(0:Int)<(k:Int)then(k:Int)-0 else 0)=_;split<;>omega
     refine az (e1) ?_;refine⟨eM k,none,g',aF,s',s'.heap.objs.size+1,_,_,?_,q,nx,CI a.handled (n:=k),?_,trivial,KZ _,by rw[wt];exact hb,fun b o e=>Heap.get?_push_of_some _ (Heap.get?_push_of_some _ e),rfl,rfl,trivial⟩
     ·show Value.ref (s'.heap.push _).objs.size=_;rw[Heap.size_push]
     ·have:=Heap.get?_push_size (s'.heap.push {cls:=.type "range",data:=.fields #[.int 0 s'.toks,.int (Int.ofNat k) t,.int 1 (s'.toks+1)]}) (o:={cls:=.type "range_iterator",data:=.fields #[rawInt 0,rawInt (k:Int),rawInt 1]}) rfl;rw[Heap.size_push]at this;show Heap.get? _ _=_;have e0:((k:Int)-((0:Nat):Int))=(k:Int):=by omega
      refine az (e0) ?_;exact this
 case none=>
  refine aR.go (IH aJ qg it x env ê g σ s _ A hc a I Ce q) fun m v g' aF s' q r nx=>?_;have lst:∀{m:ag} {xs:List D} {w:Option (Nat×List D)},Ap m xs w->bG W g' m v->jg w aF True->xs.length<=ah->K xs w aF->wpAny (model W.prog W.w) A (pyIter v) (KY W A env ê g σ s K) NE s':=fun{m xs w} S r ok hb hk=>by
    have⟨ax,e⟩:∃ax,v=.ref ax:=by
     induction S using Ap.casesOn with
     |dat l=>obtain⟨a,_,_,e,_⟩:=lz r;exact⟨a,e⟩
     |cell i r' hv=>obtain⟨p,_,e⟩:=r;exact⟨_,e⟩
    subst e;refine bR (wq S nx.inv r ok) fun ws hl hr=>?_;have p9:ax<s'.heap.objs.size:=by obtain⟨_,e,_⟩:=hl;exact Heap.lt_size e
    refine wpAny_pyIter_list hl ?_;exact⟨xs,w,g',aF,s',s'.heap.objs.size,_,_,rfl,hk,nx,Ff a.handled S (Nat.ne_of_lt p9),⟨_,Heap.get?_push_size _ rfl,rfl,rfl⟩,r,cY _,hb,fun b o e=>Heap.get?_push_of_some _ e,rfl,rfl,ok⟩
  refine bc fun hn=>?_;have lst:=fun{m} {xs} {w} S r b c d=>hn (@lst m xs w S r b c d);have q:itV m aF K:=q
  induction m using ag.casesOn with
  |d x=>
   have q:itD x fun l=>K l none aF:=q
   induction x using PyData.casesOn with
   |list l=>
    obtain⟨hb,q⟩:=dw q;exact lst (.dat l) r trivial hb q
   |tuple l=>
    obtain⟨hb,q⟩:=dw q;refine hn ?_;refine n8 (gV r) fun ax vs as nY ha r1=>?_;subst nY;have W9:=cC nx.inv.gP ha;have p9:ax<s'.heap.objs.size:=by obtain⟨_,e,_⟩:=W9;exact Heap.lt_size e
    refine wpAny_pyIter_tuple (EV W9) ?_;exact⟨l,none,g',aF,s',s'.heap.objs.size,_,_,rfl,q,nx,CH a.handled (Nat.ne_of_lt p9),⟨_,Heap.get?_push_size _ rfl,rfl,rfl⟩,r,cY _,hb,fun b o e=>Heap.get?_push_of_some _ e,rfl,rfl,trivial⟩
   |_=>exact nf q
  |b i=>
    refine Bq q fun hv q=>qS q fun c rr hs q=>?_;revert hs;refine gY q fun q hs=>?_;obtain⟨hb,q⟩:=dw q;exact lst (.cell i rr hv) r ⟨hs,trivial⟩ (by rw[List.length_reverse];exact hb) q
  |_=>exact nf q
end
section
variable{W:Wd}{N:Nm}{G:Own}{A:Around}{s:Shared}{g cD:Gh}{σ ab:St}{env:Env}{ê:ak}{d n aJ:Nat}{C:Cl}{Q:KV}{h h' jE:Heap}
theorem qH{env:Env}:∀(names:List (Str×NameKind)) (cs:List (Str×Addr)),(∀x,(x,NameKind.free)∈names->∃c,env.cells.lookup x=some c)->
  ∃cl,(forIn names cs fun(x:Str×NameKind) (r:List (Str×Addr))=>(if(x.2==NameKind.free)=true then do let a <-cellOf env x.1;pure (ForInStep.yield ((x.1,a)::r))else pure (ForInStep.yield r):Sem (ForInStep (List (Str×Addr)))))=pure cl/\
   (∀x c,cl.lookup x=some c->cs.lookup x=some c\/((x,NameKind.free)∈names/\env.cells.lookup x=some c))/\(∀x,(x,NameKind.free)∈names->∃c,cl.lookup x=some c)/\(∀x,(∃c,cs.lookup x=some c)->∃c,cl.lookup x=some c)
 |[],cs,_=>⟨cs,rfl,fun x c e=>.inl e,(fun x hx=>by rcases hx with _|_),fun x h=>h⟩
 |(y,k)::names,cs,hf=>by
  rw[List.forIn_cons];by_cases hk:k=.free
  ·subst hk;obtain⟨c,hc⟩:=hf y (.head _);refine zb (qH names ((y,c)::cs) fun x hx=>hf x (.tail _ hx)) fun cl e h1 h2 h3=>?_;refine⟨cl,?_,fun x c' hx=>?_,fun x hx=>?_,fun x hx=>?_⟩
   ·have:cellOf env y=pure c:=by unfold cellOf;rw[hc]
    simp only[beq_self_eq_true,if_true];show(cellOf env y>>= _)>>= _=_;refine az (this) ?_;exact e
   ·rcases h1 x c' hx with q|⟨q,q'⟩
    ·rw[List.lookup_cons]at q;cases z:x==y with
     |true=>rw[z]at q;rcases q with _|_;exact .inr ⟨by rw[eq_of_beq z];exact .head _,by rw[eq_of_beq z];exact hc⟩
     |false=>rw[z]at q;exact .inl q
    ·exact .inr ⟨.tail _ q,q'⟩
   ·rcases List.mem_cons.mp hx with q|q
    ·rcases q with _|_;exact h3 y ⟨c,by rw[List.lookup_cons,beq_self_eq_true]⟩
    ·exact h2 x q
   ·obtain⟨c',q⟩:=hx;refine h3 x ?_;refine az (List.lookup_cons) ?_;cases z:x==y with
    |true=>exact⟨c,rfl⟩
    |false=>exact⟨c',q⟩
  ·refine zb (qH names cs fun x hx=>hf x (.tail _ hx)) fun cl e h1 h2 h3=>?_;refine⟨cl,?_,fun x c' hx=>?_,fun x hx=>?_,h3⟩
   ·have:(k==NameKind.free)=false:=by simpa using hk
    simp only[this,Bool.false_eq_true,if_false];exact e
   ·rcases h1 x c' hx with q|⟨q,q'⟩
    ·exact .inl q
    ·exact .inr ⟨.tail _ q,q'⟩
   ·rcases List.mem_cons.mp hx with q|q
    ·rcases q with _|_;exact absurd rfl hk
    ·exact h2 x q
theorem yP{scope:Scope}{env:Env}(hk:env.scope.kind=.function):(relabel scope env).names=pU env.scope.names scope.names:=by
 unfold relabel pU;refine List.map_congr_left fun p hp=>?_;obtain⟨x,k⟩:=p;show(if(k==NameKind.free&&env.scope.kind==.function&&env.kindOf x==some .cell)=true then(x,NameKind.cell)else(x,k))=_;rw[hk,gc rfl];unfold zm;by_cases e:k=.free
 ·subst e;dsimp only;cases q:dG env.scope.names x with
  |none=>rfl
  |some z=>rcases z with _|_<;>rfl
 ·have:(k==NameKind.free)=false:=by simpa using e
  refine az (this) ?_;rcases k with _|_<;>first|rfl|exact absurd rfl e
theorem oN{y x:Str}{k:NameKind}{l:Sc}:dG ((y,k)::l) x=match fb y x with|true=>some k|false=>dG l x:=rfl
theorem K2{vn:Sc}{y:Str}{k:NameKind}:(zm vn (y,k)).1=y:=by
 unfold zm;dsimp only;split<;>first|rfl|(split<;>rfl)
theorem lB{vn:Sc}{x:Str}:∀{sc:Sc},dG (pU vn sc) x=match dG sc x with
  |some .free=>(match dG vn x with|some .cell=>some .cell|_=>some .free)
  |k=>k
 |[]=>rfl
 |(y,k)::sc=>by
  have ih:=lB (vn:=vn) (x:=x) (sc:=sc);have e0:pU vn ((y,k)::sc)=(y,(zm vn (y,k)).2)::pU vn sc:=by
   have:zm vn (y,k)=(y,(zm vn (y,k)).2):=Prod.ext K2 rfl;show zm vn (y,k)::_=_;rw[<-this];rfl
  refine az (e0) ?_;refine az (oN) ?_;refine az (oN) ?_;cases z:fb y x with
  |false=>exact ih
  |true=>
   have:=bj.mp z;subst this;unfold zm;dsimp only;rcases k with _|_<;>first|rfl|skip
   dsimp only;cases dG vn y with
   |none=>rfl
   |some q=>rcases q with _|_<;>rfl
set_option tactic.hygienic true in
theorem pF:∀{fv:List Str} {x:Str} {m:ag},dF x (envOf fv ê)=some m->dF x ê=some m/\x∈fv
 |y::fv,x,m,e=>by
  unfold envOf at e;split at e
  ·rename_i v hv;unfold dF at e;split at e
   ·rename_i z;have:=bj.mp z;dsimp only at this;subst this;rcases e with _|_;exact⟨hv,.head _⟩
   ·obtain⟨a,b⟩:=pF e;exact⟨a,.tail _ b⟩
  ·obtain⟨a,b⟩:=pF e;exact⟨a,.tail _ b⟩
theorem aS.sub{ed:ak}(Ce:aS W g env ê h)(k:∀x m,dF x ed=some m->dF x ê=some m):aS W g env ed h:=
 ⟨Ce.kind,Ce.fr,Ce.ns,fun x m e=>Ce.vars x m (k x m e),Ce.cells,Ce.inj,Ce.glob,Ce.all⟩
theorem Inv.YR(I:Inv W g σ h){q:Addr}(hq:g.O q=.fr):Inv W {g with O:=cM g.O q .no} σ h:=by
 have rm:RM W g {g with O:=cM g.O q .no}:=RM.same;have tg:∀(tag:Tag) (b:Addr),tag≠.fr->g.O b=tag->cM g.O q .no b=tag:=fun tag b ne e=>by
  rw[cF];exact e;intro z;rw[z,hq]at e;exact ne e.symm
 refine⟨I.fT,I.gP,fun a o e=>?_,fun a e=>?_,I.qV,I.qm,fun i o e=>?_,I.cn,fun i o e=>?_,I.sb,I.DZ,I.D1⟩
 ·show cM g.O q .no a=.no;by_cases z:a=q
  ·rw[z];exact cZ ..
  ·rw[cF z];exact I.lO a o e
 ·show cM g.O q .no a=.no;by_cases z:a=q
  ·rw[z];exact cZ ..
  ·rw[cF z];exact I.live a e
 ·refine bR (I.cb i o e) fun p e1 c=>?_;exact⟨p,e1,c.rm rm (tg _ _ fun z=>nomatch z) (tg _ _ fun z=>nomatch z) (fun _ _ e=>e) (fun _ _ e=>e)⟩
 ·refine ja (I.ct i o e) fun a e1 c z=>?_;exact⟨a,e1,c.rm rm (tg _ _ fun z=>nomatch z) (tg _ _ fun z=>nomatch z) (fun _ _ e=>e) (fun _ _ e=>e),z⟩
theorem Inv.YS(I:Inv W g σ h){q:Addr}(hq:g.O q=.no)(hB:g.B.get? q=none)(hl:∃o,h.get? q=some o):Inv W {g with O:=cM g.O q .fr} σ h:=by
 have rm:RM W g {g with O:=cM g.O q .fr}:=RM.same;have tg:∀(tag:Tag) (b:Addr),tag≠.no->g.O b=tag->cM g.O q .fr b=tag:=fun tag b ne e=>by
  rw[cF];exact e;intro z;rw[z,hq]at e;exact ne e.symm
 refine⟨I.fT,I.gP,fun a o e=>?_,fun a e=>?_,I.qV,I.qm,fun i o e=>?_,I.cn,fun i o e=>?_,I.sb,I.DZ,I.D1⟩
 ·show cM g.O q .fr a=.no;by_cases z:a=q
  ·rw[z,hB]at e;rcases e with _|_
  ·rw[cF z];exact I.lO a o e
 ·show cM g.O q .fr a=.no;by_cases z:a=q
  ·obtain⟨o,e'⟩:=hl;rw[z]at e;rw[e']at e;rcases e with _|_
  ·rw[cF z];exact I.live a e
 ·refine bR (I.cb i o e) fun p e1 c=>?_;exact⟨p,e1,c.rm rm (tg _ _ fun z=>nomatch z) (tg _ _ fun z=>nomatch z) (fun _ _ e=>e) (fun _ _ e=>e)⟩
 ·refine ja (I.ct i o e) fun a e1 c z=>?_;exact⟨a,e1,c.rm rm (tg _ _ fun z=>nomatch z) (tg _ _ fun z=>nomatch z) (fun _ _ e=>e) (fun _ _ e=>e),z⟩
theorem gf.tag{O:Addr->Tag}{g':Gh}{aF:St}(P:gf g σ h g' aF h'){q:Addr}{t:Tag}(hn:h.get? q=none):gf g σ h {g' with O:=cM g'.O q t} aF h':=by
 refine⟨P.bm,fun b o e f=>?_,fun b o e f=>?_,P.lb,P.lt,P.gm⟩
 ·refine n7 (P.fo b o e f) fun x y z=>?_;exact⟨x,by show cM g'.O q t b=_;rw[cF (fun z=>by rw[z,hn]at e;rcases e with _|_)];exact y,z⟩
 ·obtain⟨x,y⟩:=P.co b o e f;exact⟨x,by show cM g'.O q t b=_\/cM g'.O q t b=_;rw[cF (fun z=>by rw[z,hn]at e;rcases e with _|_)];exact y⟩
theorem lU{w:Option (Nat×List D)}{P:Prop}(h:jg w σ P):jg w σ True/\P:=by
 unfold jg at h⊢;split at h
 ·exact⟨trivial,h⟩
 ·exact⟨⟨h.1,trivial⟩,h.2⟩
theorem Fg{v:ag}{P:Prop}(h:vc v P):kz v=false/\P:=by
 unfold vc at h;split at h
 ·rename_i e;exact⟨e,h⟩
 ·exact h.elim
theorem wu{g':Gh}{aF:St}(P:gf g σ h g' aF h'):∀{l:List ag} {ws:List Value},(∀m∈l,kz m=false)->cc W g l ws->cc W g' l ws:=by
 intro l0
 induction l0 with
 |nil=>
  intro l1;rcases l1 with _|⟨y0,nR⟩
  ·intro _ _;exact trivial
  ·intro _ z;exact z.elim
 |cons x0 Jq ih=>
  intro l1;rcases l1 with _|⟨y0,nR⟩
  ·intro _ z;exact z.elim
  ·rintro hv ⟨a,b⟩
   exact⟨a.mono P (fun z=>by rw[hv _ (.head _)]at z;rcases z with _|_),ih (fun m hm=>hv m (.tail _ hm)) b⟩
structure K3(W:Wd)(xs:List D)(w:Option (Nat×List D))(It:Nat->Heap->Prop)(Rel:Gh->Prop)(Ia Cf Da:Addr)(cD:Gh)(ab:St)(bQ:Shared)(K:List D->List ag->St->Prop)(k:Nat)(s:Shared):Prop where
 ex:∃ys acc g σ ws nD mC,xs.drop k=ys/\k<=xs.length/\K ys acc σ/\Inv W g σ s.heap/\g.O Cf=.fr/\s.heap.Ns Cf mC/\g.O Ia=.no/\g.B.get? Ia=none/\It k s.heap/\g.O Da=.no/\g.B.get? Da=none/\
  s.heap.get? Da=some (eA ws nD)/\cc W g acc.reverse ws/\acc.length<=k/\(∀m∈acc,kz m=false)/\gf cD ab bQ.heap g σ s.heap/\Rel g
 gens:s.gens=bQ.gens
 os:s.os=bQ.os
theorem nK{x:Str}{k:NameKind}:∀{sc:Sc},dG sc x=some k->(x,k)∈sc
 |(y,k')::sc,h=>by
  rw[oN]at h;split at h
  ·rename_i e;rcases h with _|_;rw[<-bj.mp e];exact .head _
  ·exact .tail _ (nK h)
theorem oO{vn sc:Sc}{tg:Str}{fv:List Str}(h:sH vn sc tg fv=true):(∀p∈sc,p.2≠.cell)/\(∀p∈sc,p.2=.local->sc.lookup p.1=some .local)/\(∀x,(x,NameKind.free)∈sc->dG vn x=some .cell\/dG vn x=some .free)/\dG sc tg=some .local/\(∀x∈fv,dG sc x=some .free):=by
 unfold sH at h;simp only[Bool.and_eq_true,List.all_eq_true]at h;refine bc fun bf=>?_;obtain⟨⟨h1,h2⟩,h3⟩:=h;refine bf ?_;refine⟨fun p hp e=>?_,fun p hp e=>?_,fun x hx=>?_,?_,fun x hx=>?_⟩
 ·have:=h1 p hp;rw[e]at this;rcases this with _|_
 ·have:=h1 p hp;rw[e]at this;simp only[Bool.and_eq_true]at this;have:=this.2;split at this
  ·rename_i q;rw[s8]at q;exact q
  ·rcases this with _|_
 ·have:=h1 _ hx;dsimp only at this;split at this
  ·rename_i q;exact .inl q
  ·rename_i q;exact .inr q
  ·rcases this with _|_
 ·split at h2
  ·rename_i q;exact q
  ·rcases h2 with _|_
 ·have:=h3 x hx;split at this
  ·rename_i q;exact q
  ·rcases this with _|_
theorem Ig{scope:Scope}{cl:List (Str×Addr)}{Cf:Addr}{tg:Str}{fv:List Str}{Vb:D}{Q6:Value}{m:Str->Option Value}(Ce:aS W g env (envOf fv ê) h)(Fh:sH env.scope.names scope.names tg fv=true)(hk:scope.kind=.function)
  (h1:∀x c,cl.lookup x=some c->(x,NameKind.free)∈scope.names/\env.cells.lookup x=some c) (h2:∀x,(x,NameKind.free)∈scope.names->∃c,cl.lookup x=some c) (hC:∀x c,env.cells.lookup x=some c->c≠Cf)
  (Jt:g.O Cf=.fr) (hn:h.Ns Cf m) (hm:m tg=some Q6) (hr:dQ g.B Vb Q6):aS W g (compEnvC scope cl Cf env) ((tg,.d Vb)::envOf fv ê) h:=by
 refine MS (oO Fh) fun s1 s2 s3 s4 s5=>?_;have kd:∀x,(compEnvC scope cl Cf env).kindOf x=dG (pU env.scope.names scope.names) x:=fun x=>by
  have:(compEnvC scope cl Cf env).scope.names=pU env.scope.names scope.names:=yP Ce.kind;rw[gc this]
 have inn:∀x,(x,NameKind.free)∈scope.names->dG scope.names x=some .free->(compEnvC scope cl Cf env).kindOf x=some .cell\/(compEnvC scope cl Cf env).kindOf x=some .free:=fun x _ e=>by
  rw[kd,lB,e];dsimp only;split
  ·exact .inl rfl
  ·exact .inr rfl
 refine⟨hk,Jt,⟨m,hn⟩,fun x mv e=>?_,fun x c e=>?_,fun x y c e e'=>Ce.inj x y c (h1 x c e).2 (h1 y c e').2,Ce.glob,fun x e=>?_⟩
 ·unfold dF at e;split at e
  ·rename_i z;have:=bj.mp z;dsimp only at this;subst this;rcases e with _|_;refine⟨Q6,.inl ⟨?_,m,hn,hm⟩,hr⟩;rw[kd,lB,s4]
  ·refine bR (Ce.vars x mv e) fun v hh r=>?_;refine⟨v,?_,r⟩;have hx:=(pF e).2;have hf:=nK (s5 x hx);have ok:=s3 x hf;rcases hh with⟨k,_⟩|⟨k,c,ec,ic⟩
   ·rw[gc rfl]at k;rcases ok with q|q<;>rw[q]at k<;>rcases k with _|_
   ·obtain⟨c',ec'⟩:=h2 x hf;have:=(h1 x c' ec').2;rw[ec]at this;cases this;exact .inr ⟨inn x hf (s5 x hx),c,ec',ic⟩
 ·have q:=(h1 x c e).2;refine bc fun bf=>?_;obtain⟨o1,ne,vo,ic⟩:=Ce.cells x c q;refine bf ?_;exact⟨o1,hC x c q,vo,ic⟩
 ·rw[kd,lB]at e;cases q:dG scope.names x with
  |none=>rw[q]at e;rcases e with e|e<;>cases e
  |some k=>
   induction k using NameKind.casesOn with
   |free=>exact h2 x (nK q)
   |cell=>exact absurd rfl (s1 _ (nK q))
   |_=>rw[q]at e;rcases e with e|e<;>rcases e with _|_
theorem nL{α:Type}:∀{xs:List α} {k:Nat} {x:α} {ys:List α},xs.drop k=x::ys->aq xs k=some x/\xs.drop (k+1)=ys/\k<xs.length
 |[],0,_,_,e=>by cases e
 |[],_+1,_,_,e=>by cases e
 |y::xs,0,_,_,e=>by rcases e with _|_;exact⟨rfl,rfl,Nat.succ_pos _⟩
 |y::xs,k+1,_,_,e=>by
  refine n7 (nL (xs:=xs) (k:=k) e) fun a b c=>?_;exact⟨a,b,Nat.succ_lt_succ c⟩
theorem tX{α:Type}{xs:List α}{k:Nat}(e:xs.drop k=[])(h:k<=xs.length):k=xs.length:=by
 have:=congrArg List.length e;rw[List.length_drop,List.length_nil]at this;exact Nat.le_antisymm (ai h) (aZ (iq this) (DR (xs.length) (k)))
theorem opq{α:Type}(L:Nat->α->Prop)(N:Nat):∃IV:Nat->α->Prop,(∀k s,L k s->IV (N-k) s)/\∀nn s,IV nn s->∃k,nn=N-k/\L k s:=
 ⟨fun nn s=>∃k,nn=N-k/\L k s,fun k _ h=>⟨k,rfl,h⟩,fun _ _ h=>h⟩
theorem Ih(H:iJ W N G)(IH:∀m,m<=n->ek W d (ev G C n) (aH N m))(qg:aJ<=n)(a:ix d 2 A){elt:E}{y:Expr}{tg:Str}{p pos:Pos}{cond:Option E}{ifs:List Expr}{iter:Expr}{scope:Scope}{cl:List (Str×Addr)}{fv:List Str}{xs:List D}{w:Option (Nat×List D)}
  {Ia Cf Da:Addr} {It:Nat->Heap->Prop} {Rel:Gh->Prop} {bQ:Shared} {Kf:List ag->St->Prop} {R:Result->Shared->Prop}
  (Fh:sH env.scope.names scope.names tg fv=true) (Pp:scope.kind=.function) (h1:∀x c,cl.lookup x=some c->(x,NameKind.free)∈scope.names/\env.cells.lookup x=some c) (h2:∀x,(x,NameKind.free)∈scope.names->∃c,cl.lookup x=some c)
  (he:aH N aJ (pU env.scope.names scope.names) elt y=true) (xF:vy (aH N aJ (pU env.scope.names scope.names)) cond ifs=true)
  (S:CG W A w xs Ia It Rel) (hlen:xs.length<=ah) (Ce:aS W cD env (envOf fv ê) bQ.heap) (hv:iP (envOf fv ê)=false)
  (nI:bQ.heap.get? Ia=none) (nC:bQ.heap.get? Cf=none) (nD:bQ.heap.get? Da=none) (ne1:Ia≠Cf) (ne2:Ia≠Da) (ne3:Cf≠Da) {s':Shared}
  (L:K3 W xs w It Rel Ia Cf Da cD ab bQ (fun ys acc σ=>kh (ev G C n) G.tab n elt tg cond w (envOf fv ê) ys acc σ Kf) 0 s')
  (fin:∀s' g' aF acc ws nD mC,Kf acc aF->Inv W g' aF s'.heap->g'.O Cf=.fr->s'.heap.Ns Cf mC->g'.O Da=.no->g'.B.get? Da=none->s'.heap.get? Da=some (eA ws nD)->cc W g' acc ws->gf cD ab bQ.heap g' aF s'.heap->s'.gens=bQ.gens->s'.os=bQ.os->R (.ok .next) s'):
  codeAny (model W.prog W.w) A (.compLoop (.ListComp y [⟨.Name tg p,iter,ifs,0⟩] scope pos) 0 (.ref Ia) (.ref Da) (compEnvC scope cl Cf env)) R s':=by
 have hC:∀x c,env.cells.lookup x=some c->c≠Cf:=fun x c e z=>by
  obtain⟨_,_,vo,o,ho,_⟩:=Ce.cells x c e;rw[z,nC]at ho;rcases ho with _|_
 have Vc:(compEnvC scope cl Cf env).scope.names=pU env.scope.names scope.names:=yP Ce.kind;have htg:(compEnvC scope cl Cf env).kindOf tg=some .local:=by
  rw[gc Vc,lB,(oO Fh).2.2.2.1]
 obtain⟨IV,SS,YT⟩:=opq (K3 W xs w It Rel Ia Cf Da cD ab bQ (fun ys acc σ=>kh (ev G C n) G.tab n elt tg cond w (envOf fv ê) ys acc σ Kf)) (xs.length+1);refine codeAny_compLoop_tests IV ?_ (xs.length+1) (SS 0 s' L);intro nn s' Vd;refine bc fun bf=>?_;obtain⟨k,rfl,⟨⟨ys,acc,g',aF,ws,Xa,mC,SU,hk,q,I,Jt,Ii,CJ,Ij,Pq,Pr,SV,Ve,Ik,wx,Il,P,Aq⟩,hg,ho⟩⟩:=YT nn s' Vd;refine bf ?_;clear bf Vd L
 induction ys using List.casesOn with
 |nil=>
  obtain⟨ok,q⟩:=lU (show jg w aF (Kf acc.reverse aF)from q);have:=tX SU hk;subst this;refine S.done g' aF s' _ _ Pq I Aq ok CJ Ij fun h' tk keep=>?_;have I':=I.drop (h':=h') CJ Ij keep fun b e hb=>by
   cases z:s'.heap.get? b with
   |none=>rfl
   |some o=>rw[keep b o hb z]at e;rcases e with _|_
  exact fin _ g' aF acc.reverse ws Xa mC q I' Jt (Ns.at Ii fun o e=>keep _ o (Ne.symm ne1) e) Pr SV (keep _ _ (Ne.symm ne2) Ve) Ik (P.drop nI keep) hg ho
 |cons x ys=>
  refine n7 (nL SU) fun hx NC p9=>?_;obtain⟨ok,q⟩:=lU q;refine S.item k g' aF s' x _ _ Pq I Aq ok CJ Ij hx fun v h' tk Q5 K4 keep=>?_;have I1:=I.drop (h':=h') CJ Ij keep fun b e hb=>by
   cases z:s'.heap.get? b with
   |none=>rfl
   |some o=>rw[keep b o hb z]at e;rcases e with _|_
  have P1:=P.drop nI keep;have YU:h'.Ns Cf mC:=Ns.at Ii fun o e=>keep _ o (Ne.symm ne1) e;refine wpAny_assign_Name (wpAny_storeName_local htg YU (fun K5 Im sb=>?_) (by simp[compEnvC,relabel,Pp]));have GC:∀b o,b≠Cf->h'.get? b=some o->K5.get? b=some o:=fun b o hb e=>sb.extBut b o hb e;have I2:Inv W g' aF K5:=I1.SN Jt GC (by obtain⟨o,_,_,ho,_⟩:=Im;exact⟨o,ho⟩);have P2:=P1.drop nC GC;have YV:aS W g' env (envOf fv ê) K5:=Ce.post P2 fun z=>by rw[hv]at z;rcases z with _|_
  have Ci:aS W g' (compEnvC scope cl Cf env) ((tg,.d x)::envOf fv ê) K5:=Ig YV Fh Pp h1 h2 hC Jt Im (by simp) Q5;have hD2:K5.get? Da=some (eA ws Xa):=GC _ _ (Ne.symm ne3) (keep _ _ (Ne.symm ne2) Ve);have CK:It (k+1) K5:=S.fr _ _ _ K4 fun o e=>GC _ _ ne1 e;have body:∀(g3:Gh) (nZ:St) (s3:Shared) (E':Value->Shared->Prop),dP W (compEnvC scope cl Cf env) ((tg,.d x)::envOf fv ê) g' aF {s' with heap:=K5,toks:=tk+1} g3 nZ s3->
    (ev G C n elt ((tg,.d x)::envOf fv ê) nZ fun v ab=>fz v ab fun v' au=>vc v' (kh (ev G C n) G.tab n elt tg cond w (envOf fv ê) ys (v'::acc) au Kf))->
    wpAny (model W.prog W.w) A (eval y (compEnvC scope cl Cf env)) (fun x YW=>wpAny (model W.prog W.w) A (call (.builtin "list.append") [.ref Da,x]) (fun _ YX=>∃m,m<xs.length+1-k/\IV m YX) E' YW) E' s3:=by
   intro g3 nZ s3 E' nx q3;refine wpAny_mono (aR.go (IH aJ qg elt y _ _ g3 nZ s3 _ A (by rw[Vc];exact he) a nx.inv nx.bJ q3) fun m v4 g4 Xb s4 q4 r4 Ib=>?_) (fun _ _ z=>z) fun _ _ z=>z.elim;refine lY (yM Ib.inv Ib.bJ r4 q4) fun m' g5 YY q5 r5 nt5 Xc=>?_;obtain⟨hv5,q6⟩:=Fg q5;have NX:=(nx.trans Ib).trans Xc;obtain⟨d1,d2,d3⟩:=NX.post.fo Da _ hD2 (by rw[Pr];trivial);obtain⟨oI,MK⟩:=S.live _ _ CK;obtain⟨i1,i2,i3⟩:=NX.post.fo Ia _ MK (by rw[CJ];trivial);refine qj (id Im) fun oC _ _ K6 _=>?_;have K6:K5.get? Cf=some oC:=K6;obtain⟨c1,c2,c3⟩:=NX.post.fo Cf _ K6 (by rw[Jt];trivial);have hz:ws.toArray.size<=sizeLine:=by
    have:=d7 Ik;rw[List.length_reverse]at this;refine az (List.size_toArray) ?_;refine az (this) ?_;exact eI (Nat.le_trans wx (Nat.le_trans hk hlen))
   refine append_at d1 (fun h5 sb5 hD5=>?_) hz;have CL:∀b o,b≠Da->s4.heap.get? b=some o->h5.get? b=some o:=fun b o hb e=>sb5.extBut b o hb e;have I5:=Xc.inv.drop (h':=h5) (d2.trans Pr) (d3.trans SV) CL fun b e hb=>by
    cases z:s4.heap.get? b with
    |none=>rfl
    |some o=>rw[CL b o hb z]at e;rcases e with _|_
   have RM:∀m v,kz m=false->bG W g' m v->bG W g5 m v:=fun m v hm r=>r.mono NX.post (fun z=>by rw[hm]at z;rcases z with _|_);refine⟨xs.length+1-(k+1),by omega,SS (k+1) _ ⟨⟨ys,m'::acc,g5,YY,ws++[v4],Xa+1,_,NC,p9,q6,I5,c2.trans Jt,Ns.at (h:=s4.heap) (Ns.at Im fun o e=>by rw[K6]at e;rcases e with _|_;exact c1) (fun o e=>CL _ _ ne3 e),i2.trans CJ,i3.trans Ij,
    S.fr _ _ _ CK (fun o e=>by rw[MK]at e;rcases e with _|_;exact CL _ _ ne2 i1),d2.trans Pr,d3.trans SV,?_,?_,?_,?_,(P2.trans NX.post).drop nD CL,S.mono _ _ RM Aq⟩,?_,?_⟩⟩
   ·rw[hD5,List.push_toArray]
   ·refine az (List.reverse_cons) ?_;exact k6 (wu NX.post (fun m hm=>Il m (List.mem_reverse.mp hm)) Ik) ⟨r5,trivial⟩
   ·exact Nat.succ_le_succ wx
   ·intro m hm;rcases List.mem_cons.mp hm with rfl|hm
    ·exact hv5
    ·exact Il m hm
   ·exact NX.gens.trans hg
   ·exact NX.os.trans ho
  have Js:dP W (compEnvC scope cl Cf env) ((tg,.d x)::envOf fv ê) g' aF {s' with heap:=K5,toks:=tk+1} g' aF {s' with heap:=K5,toks:=tk+1}:=dP.refl I2 Ci
  induction cond using Option.casesOn with
  |none=>
   induction ifs using List.casesOn with
   |cons _ _=>exact ff xF
   |nil=>
    refine wpAny_tests_nil ?_;simp only[if_true];exact body g' aF _ _ Js q
  |some c=>
   induction ifs using List.casesOn with
   |nil=>exact ff xF
   |cons z zs=>
    induction zs using List.casesOn with
    |cons _ _=>exact ff xF
    |nil=>
     refine wpAny_tests_one ?_;refine wpAny_mono (ux.go (Am H IH a n c z g' aF _ _ aJ qg (by rw[Vc];exact xF) Js.inv Js.bJ q) fun b g3 nZ s3 q3 k7=>?_) (fun _ _ z=>z) fun _ _ z=>z.elim
     induction b using Bool.casesOn with
     |true=>
      simp only[if_true];exact body g3 nZ s3 _ (Js.trans k7) q3
     |false=>
      simp only[Bool.false_eq_true,if_false];have NX:=Js.trans k7;obtain⟨d1,d2,d3⟩:=NX.post.fo Da _ hD2 (by rw[Pr];trivial);obtain⟨oI,MK⟩:=S.live _ _ CK;obtain⟨i1,i2,i3⟩:=NX.post.fo Ia _ MK (by rw[CJ];trivial);refine qj (id Im) fun oC _ _ K6 _=>?_;have K6:K5.get? Cf=some oC:=K6;obtain⟨c1,c2,c3⟩:=NX.post.fo Cf _ K6 (by rw[Jt];trivial);have RM:∀m v,kz m=false->bG W g' m v->bG W g3 m v:=fun m v hm r=>r.mono NX.post (fun z=>by rw[hm]at z;rcases z with _|_);exact⟨xs.length+1-(k+1),by omega,SS (k+1) _ ⟨⟨ys,acc,g3,nZ,ws,Xa,_,NC,p9,q3,k7.inv,c2.trans Jt,Ns.at Im (fun o e=>by rw[K6]at e;rcases e with _|_;exact c1),i2.trans CJ,i3.trans Ij,
       S.fr _ _ _ CK (fun o e=>by rw[MK]at e;rcases e with _|_;exact i1),d2.trans Pr,d3.trans SV,d1,wu NX.post (fun m hm=>Il m (List.mem_reverse.mp hm)) Ik,Nat.le_succ_of_le wx,Il,P2.trans NX.post,S.mono _ _ RM Aq⟩,NX.gens.trans hg,NX.os.trans ho⟩⟩
end
section
variable{W:Wd}{N:Nm}{G:Own}{A:Around}{s:Shared}{g cD:Gh}{σ ab:St}{env:Env}{ê:ak}{d n aJ:Nat}{C:Cl}{Q:KV}{h h' jE:Heap}
theorem gf.live{g':Gh}{aF:St}(P:gf g σ h g' aF h'){a:Addr}(e:h'.get? a=none):h.get? a=none:=by
 cases z:h.get? a with
 |none=>rfl
 |some o=>obtain⟨o',q⟩:=P.s.live z;rw[q]at e;rcases e with _|_
theorem CM{P:Prop}(h:oa ê P):iP ê=false/\P:=by
 unfold oa at h;split at h
 ·rename_i e;exact⟨e,h⟩
 ·exact h.elim
theorem Vf{e:Expr}{env:Env}(h:(!isSet e)=true):∀x,foldedSetIterable e env x=pure x:=by
 intro x;rcases e with _|_<;>first|rfl|rcases h with _|_
theorem yQ(H:iJ W N G)(IH:∀m,m<=n->ek W d (ev G C n) (aH N m))(qg:aJ<=n)(a:ix d 2 A)(I:Inv W g σ s.heap)(Ce:aS W g env ê s.heap){elt it:E}{y:Expr}{tg:Str}{p pos pos':Pos}{cond:Option E}{ifs:List Expr}{iter:Expr}{scope:Scope}{fv:List Str}{use:Option (Value->Sem Unit)}{R:Value->Shared->Prop}{pl:List ag->Place}
  (hit:aH N aJ env.scope.names it iter=true) (YZ:(!isSet iter)=true) (Fh:sH env.scope.names scope.names tg fv=true) (Pp:scope.kind=.function)
  (he:aH N aJ (pU env.scope.names scope.names) elt y=true) (xF:vy (aH N aJ (pU env.scope.names scope.names)) cond ifs=true)
  (q:mA (ev G C n) it ê σ fun xs w ab=>oa (envOf fv ê)<|kh (ev G C n) G.tab n elt tg cond w (envOf fv ê) xs [] ab fun vs au=>pR ê ab au (pS (pl vs) (Jp vs) ê au Q))
  (fin:∀m g' aF s' Da Cf,Q m aF->bG W g' m (.ref Da)->dP W env ê g σ s g' aF s'->s.heap.get? Cf=none->g'.O Cf=.no->g'.B.get? Cf=none->(∃mC,s'.heap.Ns Cf mC)->compPost (model W.prog W.w) A NE use R (.ref Da) Cf (.ok .next) s'):
  wpAny (model W.prog W.w) A (comprehension (.ListComp y [⟨.Name tg p,iter,ifs,0⟩] scope pos) scope env pos' (newList []) false (eval iter env) use) R NE s:=by
 refine MS (oO Fh) fun s1 s2 s3 s4 s5=>?_;refine bc fun bf=>?_;obtain⟨cl,tf,c1,c2,_⟩:=qH (env:=env) scope.names [] fun x hx=>Ce.all x (by rw[gc rfl];exact s3 x hx);refine bf ?_;have Vg:closureFor scope env=pure cl:=by
  unfold closureFor;exact(congrArg (fun(m:Sem (List (Str×Addr)))=>m>>= fun cs=>pure cs) tf).trans rfl
 have h1:∀x c,cl.lookup x=some c->(x,NameKind.free)∈scope.names/\env.cells.lookup x=some c:=fun x c e=>by
  rcases c1 x c e with q|q
  ·rcases q with _|_
  ·exact q
 refine wpAny_comprehension_free (use:=use) rfl (Vf YZ) Vg Pp s2 (cQ (K1 H IH qg a I Ce hit q) fun xv sA hA=>cQ hA fun itv sB hB=>?_);refine OZ (hB) fun xs w cD ab bQ Ia It Rel Y0 q nx S Pq Q7 nI hlen keep hg ho ok=>?_;subst Y0;have KA:=CM q;have hv:=KA.1;have q:=KA.2;clear KA;refine wpAny_newObj_type (wpAny_newFunctionEnv s1 (by intro y hy;simp at hy) (fun hh SO Xd=>?_) Pp);dsimp only at SO Xd⊢;generalize Y1:sB.heap.push {cls:=.type "list",dict:=none,data:=.seq ([]:List Value).toArray}=H2 at SO Xd⊢;have hC:H2.objs.size=sB.heap.objs.size+1:=by rw[<-Y1,Heap.size_push]
 have Xe:sB.heap.get? sB.heap.objs.size=none:=cY _;have SW:sB.heap.get? H2.objs.size=none:=by rw[hC];exact KZ _
 have dead:∀a,sB.heap.get? a=none->bQ.heap.get? a=none:=fun a e=>by
  cases z:bQ.heap.get? a with
  |none=>rfl
  |some o=>rw[keep a o z]at e;rcases e with _|_
 obtain⟨oI,MK⟩:=S.live _ _ Pq;have Vh:=Heap.lt_size MK;have ne1:Ia≠H2.objs.size:=by rw[hC];exact Nat.ne_of_lt (Nat.lt_succ_of_lt Vh)
 have ne2:Ia≠sB.heap.objs.size:=Nat.ne_of_lt Vh;have ne3:H2.objs.size≠sB.heap.objs.size:=by rw[hC];exact Nat.succ_ne_self _
 have k2:∀b o,sB.heap.get? b=some o->hh.get? b=some o:=fun b o e=>Xd.extBut b o (fun z=>by rw[z,SW]at e;rcases e with _|_) (Heap.get?_push_of_some _ (Y1▸Heap.get?_push_of_some _ e));have kk:∀b o,bQ.heap.get? b=some o->hh.get? b=some o:=fun b o e=>k2 b o (keep b o e);have hD:hh.get? sB.heap.objs.size=some (eA [] 0):=Xd.extBut _ _ (Ne.symm ne3) (Heap.get?_push_of_some _ (Y1▸Heap.get?_push_size _ rfl));have Q8:=nx.inv.ki kk;have I2:=Q8.1;have P2:=Q8.2;clear Q8;have hOC:cD.O H2.objs.size=.no:=nx.inv.live _ (dead _ SW);have hBC:cD.B.get? H2.objs.size=none:=jn nx.inv (dead _ SW);have hOD:cD.O sB.heap.objs.size=.no:=nx.inv.live _ (dead _ Xe);have hBD:cD.B.get? sB.heap.objs.size=none:=jn nx.inv (dead _ Xe);have I3:=I2.YS hOC hBC (by obtain⟨o,_,_,ho,_⟩:=id SO;exact⟨o,ho⟩);have P3:=P2.tag (O:=cD.O) (t:=.fr) (dead _ SW);have Ce1:aS W cD env (envOf fv ê) bQ.heap:=nx.bJ.sub fun x m e=>(pF e).1;have rm3:RM W cD {cD with O:=cM cD.O H2.objs.size .fr}:=RM.same;have L:K3 W xs w It Rel Ia H2.objs.size sB.heap.objs.size cD ab bQ (fun ys acc σ=>kh (ev G C n) G.tab n elt tg cond w (envOf fv ê) ys acc σ fun vs au=>pR ê ab au (pS (pl vs) (Jp vs) ê au Q)) 0 {sB with heap:=hh,toks:=sB.toks+([]:List (Str×Value)).length}:=by
  refine⟨⟨xs,[],_,ab,[],0,_,rfl,Nat.zero_le _,q,I3,cZ ..,SO,?_,jn nx.inv nI,S.fr _ _ _ Pq (fun o e=>k2 _ o e),?_,hBD,hD,trivial,Nat.le_refl _,(fun m hm=>by rcases hm with _|_),P3,?_⟩,hg,ho⟩
  ·show cM cD.O _ _ _=_;rw[cF ne1];exact nx.inv.live _ nI
  ·show cM cD.O _ _ _=_;rw[cF (Ne.symm ne3)];exact hOD
  ·exact S.mono _ _ (fun m v _ r=>rm3 m v r) Q7
 have loop:=Ih (A:=A) (y:=y) (p:=p) (pos:=pos) (ifs:=ifs) (iter:=iter) (cl:=cl) (R:=compPost (model W.prog W.w) A NE use R (.ref sB.heap.objs.size) H2.objs.size) H IH qg a Fh Pp h1 c2 he xF S hlen Ce1 hv nI (dead _ SW) (dead _ Xe) ne1 ne2 ne3 L ?_
 ·exact codeAny_compStart_list loop (S.self 0 _ _ _ (S.fr _ _ _ Pq (fun o e=>k2 _ o e)) loop)
 ·intro s' g' aF acc ws nD mC hK I' Jt Ii Pr SV Ve Ik P SX Ah;have Fi:=mK hK;have Il:=Fi.1;have hK:=Fi.2;clear Fi;have nC1:=dead _ SW;have I5:=I'.YR Jt;have P5:=P.tag (O:=g'.O) (t:=.no) nC1;have C5:=nx.bJ.post P5 Il;have rm5:RM W g' {g' with O:=cM g'.O H2.objs.size .no}:=RM.same;have Vi:cM g'.O H2.objs.size .no sB.heap.objs.size=.no:=by rw[cF (Ne.symm ne3)];exact Pr
  have kd:∀b o,b≠sB.heap.objs.size->s'.heap.get? b=some o->(E8 s'.heap sB.heap.objs.size).get? b=some o:=fun b o hb e=>by rw[kn,if_neg hb];exact e
  have I6:=I5.drop (h':=E8 s'.heap sB.heap.objs.size) Vi SV kd fun b e hb=>by rw[kn,if_neg hb]at e;exact e
  have C6:=C5.drop (h':=E8 s'.heap sB.heap.objs.size) Vi kd;have P6:=P5.drop (h':=E8 s'.heap sB.heap.objs.size) (dead _ Xe) kd;refine n6 (yL acc) fun c r' e ei=>?_;rw[e]at hK;refine bc fun bf=>?_;obtain⟨m,g7,σ7,hQ,rm7,I7,C7,P7⟩:=Al (o:=.list c r') (h':=s'.heap) I6 C6 (by rw[kn,if_pos rfl]) (fun b o e=>by
   rw[kn]at e;by_cases hb:b=sB.heap.objs.size
   ·rw[if_pos hb]at e;rcases e with _|_
   ·rw[if_neg hb]at e;exact e) Ve rfl (fun g' rm tag z=>⟨z,ws,nD,Ve,by rw[ei];exact(Ik.rm rm5).rm rm⟩) (fun _ _ z=>nomatch z) hK
  obtain⟨oC,es,ep,K6,acq⟩:=id Ii;obtain⟨f1,f2,f3⟩:=P7.fo H2.objs.size oC (kd _ _ ne3 K6) (by show JK (cM _ _ _ _);rw[cZ];trivial);refine bf ?_;have nx7:dP W env ê cD ab bQ g7 σ7 s':=⟨I7,C7,P6.trans P7,SX,Ah⟩;refine fin m g7 σ7 s' _ _ hQ rm7 (nx.trans nx7) (nx.post.live nC1) (f2.trans (cZ ..)) (f3.trans ?_) ⟨mC,Ii⟩;show g'.B.get? _=none;cases z:g'.B.get? H2.objs.size with
  |none=>rfl
  |some o=>have:=I'.lO _ _ z;rw[Jt]at this;rcases this with _|_
end
section
variable{W:Wd}{N:Nm}{G:Own}{A:Around}{s:Shared}{g cD:Gh}{σ ab:St}{env:Env}{ê:ak}{d n aJ:Nat}{C:Cl}{Q:KV}{h h' jE:Heap}
theorem Q9(H:iJ W N G)(IH:∀m,m<=n->ek W d (ev G C n) (aH N m))(qg:aJ<=n)(a:ix d 2 A)(I:Inv W g σ s.heap)(Ce:aS W g env ê s.heap){elt it:E}{tg:Str}{cond:Option E}{fv:List Str}{x:Expr}(hc:aH N (aJ+1) env.scope.names (.comp elt tg it cond fv) x=true)
  (q:mA (ev G C n) it ê σ fun xs w ab=>oa (envOf fv ê)<|kh (ev G C n) G.tab n elt tg cond w (envOf fv ê) xs [] ab fun vs au=>pR ê ab au (pS (match qU vs with|some _=>.fz|none=>.Be) (Jp vs) ê au Q)):
  wpAny (model W.prog W.w) A (eval x env) (aR W env ê g σ s Q) NE s:=by
 refine JV hc fun y gs scope pos hc=>jh hc fun gg hc=>vq hc fun hg h5 h3 h6 h7 h8 h9=>?_;obtain⟨Y2,iter,ifs,asy⟩:=gg;obtain⟨hn,hg⟩:=cx hg;obtain⟨ha,h4⟩:=cx hg;have e0:=of_decide_eq_true ha;subst e0;have hn:iQ Y2 (fun t _=>fb t tg&& !fb t nh)=true:=hn;refine dW hn fun t tp hn=>dU hn fun h1 h2=>?_;have h3:aH N aJ env.scope.names it iter=true:=h3;have h4:(!isSet iter)=true:=h4;have h8:vy (aH N aJ (pU env.scope.names scope.names)) cond ifs=true:=h8;have e:=bj.mp h1;subst e;rw[eval_ListComp];refine yQ (use:=none) (pl:=fun vs=>match qU vs with|some _=>.fz|none=>.Be) H IH qg a I Ce h3 h4 h7 ?_ h6 h8 q fun m g' aF s' Da Cf hQ r nx nC hO hB Ii=>?_
 ·cases q:scope.kind<;>rw[q]at h9<;>first|rfl|exact ff h9
 ·obtain⟨mC,Ii⟩:=Ii;refine⟨mC,Ii,fun h' sb=>?_⟩;have keep:∀b o,b≠Cf->s'.heap.get? b=some o->h'.get? b=some o:=fun b o hb e=>sb.extBut b o hb e;have I':=nx.inv.drop (h':=h') hO hB keep fun b e hb=>by
   cases z:s'.heap.get? b with
   |none=>rfl
   |some o=>rw[keep b o hb z]at e;rcases e with _|_
  exact⟨m,g',aF,hQ,r,I',nx.bJ.drop hO keep,nx.post.drop nC keep,nx.gens,nx.os⟩
theorem CN:yx=("len" :Str):=by decide+kernel
theorem ND(H:iJ W N G)(a:ix d 2 A)(I:Inv W g σ s.heap)(Ce:aS W g env ê s.heap){o k:E}{x:Expr}(hc:aH N (aJ+1) env.scope.names (.Bn o k) x=true)
  (q:ev G C n o ê σ fun v ab=>ev G C n k ê ab fun w au=>Jo v fun i=>jK w fun y=>dI y fun k=>zN k fun m=>oL (au.n4 i) fun c r=>kg c ((m<=r.length/\r.length<=ah)/\Q (.d (.list (r.take m).reverse)) au)):wpAny (model W.prog W.w) A (eval x env) (aR W env ê g σ s Q) NE s:=by
 refine vu hc fun v vp ln lp v' Jr cp w bp sp pos hc=>vq hc fun h1 h2 h3 h4 h5 h6 h7=>?_;have e1:=bj.mp h1;have e4:=bj.mp h4;subst e1 e4;clear hc;revert h5 h6 q;refine yD h7 fun xo xk=>?_;intro q h5 h6
 induction aJ using Nat.casesAuxOn with
 |zero=>exact ff h5
 |succ aJ=>
 induction n using Nat.casesAuxOn with
 |zero=>exact q.elim
 |succ n=>
 have Ra:=cx h5;have a1:=Ra.1;have a2:=Ra.2;clear Ra;refine n9 (cX a1) fun uz hd _ xF=>?_;subst uz;have q:oS (dF v ê) fun mv=>oS (dF xk ê) fun mk=>Jo (res σ mv) fun i=>jK (res σ mk) fun y=>dI y fun k=>zN k fun m=>oL (σ.n4 i) fun c r=>kg c ((m<=r.length/\r.length<=ah)/\Q (.d (.list (r.take m).reverse)) σ):=q;refine dW h6 fun z zp h6=>dU h6 fun b1 b2=>?_;refine n9 (cX b1) fun uz Kv _ Rb=>?_;subst uz;refine lN q fun mv Y3 q=>lN q fun mk Y4 q=>?_;refine bc fun hn=>?_;refine bR (Ce.vars _ _ Y3) fun vv hh rr=>?_;refine bR (Ce.vars _ _ Y4) fun vk Y5 rk=>?_;have rr:=rN I rr;have rk:=rN I rk;revert rr rk;refine tI q fun i q=>cN q fun y q=>ui q fun kk q=>JD q fun m q=>qS q fun c r es q=>?_;revert es;refine gY q fun q es rr rk=>hn ?_;refine bc fun bf=>?_;obtain⟨⟨hm,hb⟩,q⟩:=q;obtain⟨tk,rfl⟩:=i6 (show dQ g.B (.int (m:Int)) vk from rk);refine bf ?_;refine n8 (lA I rr (show σ.obj (.b i)=_ from es)) fun l ws k' nY hg hr=>?_;subst nY;have e0:=d7 hr;rw[ik,List.length_nil,Nat.zero_add]at e0;have Pt:ws.toArray.size=r.length:=by simp[e0]
 refine Subscript_ (ly (h:=s.heap) Ce.kind hh hd ?_ (.inl xF));refine wpAny_Slice (wpAny_BinOp (wpAny_Call_ofName (rP H I Ce h3 (by rw[CN];decide) H.bl.1 H.bl.2 ?_)));have Ny:backTo cp (starEach [Expr.Name v Jr] env)=[(false,eval (.Name v Jr) env)]:=rfl;refine az (Ny) ?_;refine callWith_builtin rfl (evalArgs_plain (spliced_cons (ly (h:=s.heap) Ce.kind hh hd (spliced_nil ?_) (.inl xF))));refine PyProof.Rows.len_list (fP hg) (by rw[Pt];exact jr hb) ?_;refine ly (h:=s.heap) (env:=env) Ce.kind Y5 Kv ?_ (.inl Rb);refine sub_int ?_;refine wpAny_pure (wpAny_pure ?_);dsimp only;refine az (Pt) ?_;have ei:((r.length:Int)-(m:Int))=((r.length-m:Nat):Int):=by omega
 refine az (ei) ?_;have nx:∀tk,dP W env ê g σ s g σ {s with heap:=s.heap.push {cls:=.type "slice",data:=.fields #[.int ((r.length-m:Nat):Int) (s.toks+1+1),.none,.none]},toks:=tk}:=fun tk=>dP.ki I Ce (fun b o e=>Heap.get?_push_of_some _ e) rfl rfl;have hl:=fP (Heap.get?_push_of_some {cls:=.type "slice",data:=.fields #[.int ((r.length-m:Nat):Int) (s.toks+1+1),.none,.none]} hg);refine tail_any (T:= "list") (ops:=[.ref s.heap.objs.size,.ref l]) hl.typeIs PySem.slot_list_getitem.lookup ?_ rfl;refine wpAny_getItem_list_slice hl (Heap.IsSliceOf.new _ _ _ _) (.int _ _) .none .none (by simp) ?_ (by rw[Pt];exact eI hb);rw[slicePick_from'];have je:=Cz (r.length-m) hr;rw[<-E6,jL]at je;obtain⟨as,ra⟩:=gR je;exact(Kw (nx _).inv (nx _).bJ ra q).pre (nx _)
theorem K7(H:iJ W N G)(HC:wo W d C):∀n m,m<=n->ek W d (ev G C n) (aH N m)
 |0,m,hm=>fun e x env ê g σ s Q A hc a I Ce q=>q.elim
 |n+1,0,hm=>fun e x env ê g σ s Q A hc a I Ce q=>by cases hc
 |n+1,k+1,hm=>fun e x env ê g σ s Q A hc a I Ce q=>by
  have IH:∀m,m<=n->ek W d (ev G C n) (aH N m):=fun m hm=>K7 H HC n m hm;have hk:k<=n:=Nat.le_of_succ_le_succ hm;have ih:=IH k hk
  induction e using E.casesOn with
  |c x=>exact e_c I Ce hc q
  |neg i=>exact UO I Ce hc q
  |var x=>exact UP I Ce hc q
  |ph f=>exact UQ H I Ce hc q
  |O1 g=>exact UR H I Ce hc q
  |attr o a'=>exact Q0 H ih a I Ce hc q
  |sub o i=>exact US H ih a I Ce hc q
  |DT o lo hi=>exact U7 H ih a I Ce hc q
  |Bn o k=>exact ND H a I Ce hc q
  |bin op l r=>exact UT H ih a I Ce hc q
  |cmp op l r=>exact UU H ih a I Ce hc q
  |cx l r=>exact Q1 H ih a I Ce hc q
  |Bf l r=>exact UW H ih a I Ce hc q
  |ite c t e=>exact UX H IH hk a I Ce hc q
  |tup l=>exact UZ H ih a I Ce hc q
  |lst p l=>exact U0 H ih a I Ce hc q
  |Hi p ks l=>exact U1 H ih a I Ce hc q
  |call f l=>exact Q4 H HC ih a I Ce hc q
  |tH e l=>exact Nz H HC ih a I Ce hc q
  |new k s l=>exact U8 H HC ih a I Ce hc q
  |gP e=>exact U2 ih a I Ce hc q
  |len e=>exact U3 H ih a I Ce hc q
  |su e=>exact q.elim
  |str e=>exact U4 H ih a I Ce hc q
  |sy e=>exact KH H ih a I Ce hc q
  |pj e=>exact H9 H ih a I Ce hc q
  |append o x=>exact KN H ih a I Ce hc q
  |extend o x=>exact KP H ih a I Ce hc q
  |pop o=>exact U5 H ih a I Ce hc q
  |update o x=>exact KQ H ih a I Ce hc q
  |get o k d=>exact U6 H ih a I Ce hc q
  |comp elt tg it cond fv=>exact Q9 H IH hk a I Ce hc q
end
structure xH(W:Wd)(env:Env)(g:Gh)(σ:St)(s:Shared)(ed:ak)(g':Gh)(aF:St)(s':Shared):Prop where
 inv:Inv W g' aF s'.heap
 bJ:aS W g' env ed s'.heap
 post:iD g σ s.heap g' aF s'.heap
 gens:s'.gens=s.gens
 os:s'.os=s.os
noncomputable def Vj(W:Wd)(g:Gh):Fl->Flow->Prop
 |.next,.next=>True
 |.cont,.cont=>True
 |.ret m,.ret v=>bG W g m v/\ke m=true
 |_,_=>False
noncomputable def kI(W:Wd)(env:Env)(g:Gh)(σ:St)(s:Shared)(Q:KF):Flow->Shared->Prop:=
 fun f s'=>∃fl ed g' aF,Q fl ed aF/\Vj W g' fl f/\xH W env g σ s ed g' aF s'
section
variable{W:Wd}{N:Nm}{G:Own}{A:Around}{s:Shared}{g cD:Gh}{σ ab:St}{env:Env}{ê rS:ak}{d n aJ:Nat}{C:Cl}{Q:KF}{h h' jE:Heap}
theorem dP.toS{g':Gh}{aF:St}{s':Shared}(a:dP W env ê g σ s g' aF s'):xH W env g σ s ê g' aF s':=⟨a.inv,a.bJ,a.post.s,a.gens,a.os⟩
theorem xH.trans{Pu:ak}{ve:Gh}{au:St}{bQ pX:Shared}(a:xH W env g σ s rS cD ab bQ)(b:xH W env cD ab bQ Pu ve au pX):xH W env g σ s Pu ve au pX:=⟨b.inv,b.bJ,a.post.trans b.post,b.gens.trans a.gens,b.os.trans a.os⟩
theorem xH.refl(I:Inv W g σ s.heap)(Ce:aS W g env ê s.heap):xH W env g σ s ê g σ s:=⟨I,Ce,iD.refl _ _ _,rfl,rfl⟩
theorem kI.pre{bQ:Shared}(a:xH W env g σ s rS cD ab bQ){f:Flow}{s':Shared}(x:kI W env cD ab bQ Q f s'):kI W env g σ s Q f s':=
 let⟨fl,ed,g',aF,q,r,n⟩:=x;⟨fl,ed,g',aF,q,r,a.trans n⟩
theorem kI.on{M:Model}{bQ:Shared}{t:Sem Flow}(nx:xH W env g σ s rS cD ab bQ)(x:wpAny M A t (kI W env cD ab bQ Q) NE bQ):wpAny M A t (kI W env g σ s Q) NE bQ:=cQ x fun _ _ o=>o.pre nx
theorem Rc{h:Heap}{a:Addr}{m m':Str->Option Value}(x:h.Ns a m)(x':h.Ns a m')(y:Str):m y=m' y:=by
 refine lY (x) fun o es ep ho hd _ hm=>?_;refine lY (x') fun o' Ny ep' SY Kv _ Ho=>?_;obtain rfl:=Option.some.inj (ho.symm.trans SY);rw[hd]at Kv;rcases Kv with _|_
 rw[<-hm y,<-Ho y]
theorem oP(I:Inv W g σ s.heap)(Ce:aS W g env ê s.heap){x:Str}{m:ag}{v:Value}{R:Unit->Shared->Prop}(hx:fk env.scope.names x=true)(r:bG W g m v)
  (k:∀h' tk,xH W env g σ s (jb x m ê) g σ {s with heap:=h',toks:=tk}->(∀b o,(b=env.locals\/∃x c,env.cells.lookup x=some c/\b=c)\/(s.heap.get? b=some o->h'.get? b=some o))->R () {s with heap:=h',toks:=tk}):
  wpAny (model W.prog W.w) A (storeName env x v) R NE s:=by
 unfold fk at hx;have kd:=gc (env:=env) rfl x;split at hx
 ·rename_i e;obtain⟨mm,hn⟩:=Ce.ns;have hk:env.kindOf x=some .local:=by rw[kd,e]
  refine wpAny_storeName_local hk hn (fun h' pT sb=>?_) (by rw[Ce.kind];rfl);have keep:∀b o,b≠env.locals->s.heap.get? b=some o->h'.get? b=some o:=fun b o hb e=>sb.extBut b o hb e;have live:∃o,h'.get? env.locals=some o:=by obtain⟨o,_,_,ho,_⟩:=pT;exact⟨o,ho⟩
  have kc:∀y c,env.cells.lookup y=some c->∀o,s.heap.get? c=some o->h'.get? c=some o:=fun y c e o q=>keep c o (Ce.cells y c e).2.1 q;refine k h' _ ⟨I.SN Ce.fr keep live,⟨Ce.kind,Ce.fr,⟨_,pT⟩,fun y my e=>?_,fun y c e=>?_,Ce.inj,Ce.glob,Ce.all⟩,iD.SN Ce.fr keep live,rfl,rfl⟩ fun b o=>?_
  ·rw[vg]at e;by_cases z:x=y
   ·subst z;rw[if_pos rfl]at e;rcases e with _|_
    exact⟨v,.inl ⟨hk,_,pT,by simp⟩,r⟩
   ·rw[if_neg z]at e;refine bR (Ce.vars y my e) fun u hh r'=>?_;refine⟨u,?_,r'⟩;rcases hh with⟨k1,m1,n1,e1⟩|⟨k1,c,e1,ic⟩
    ·refine .inl ⟨k1,_,pT,?_⟩;have:mm y=m1 y:=Rc hn n1 y;rw[if_neg (fun q=>z q.symm),this];exact e1
    ·exact .inr ⟨k1,c,e1,IsCell.at ic (kc _ _ e1)⟩
  ·obtain⟨o1,ne,vo,ic⟩:=Ce.cells y c e;exact⟨o1,ne,vo,IsCell.at ic (kc _ _ e)⟩
  ·by_cases hb:b=env.locals
   ·exact .inl (.inl hb)
   ·exact .inr (keep b o hb)
 ·rename_i e;have hk:env.kindOf x=some .cell:=by rw[kd,e]
  obtain⟨c,hc⟩:=Ce.all x (.inl hk);obtain⟨o1,ne,vo,ic⟩:=Ce.cells x c hc;refine wpAny_storeName_cell Ce.kind hk hc ic (fun h' Y6 sb=>?_);have keep:∀b o,b≠c->s.heap.get? b=some o->h'.get? b=some o:=fun b o hb e=>sb.extBut b o hb e;have live:∃o,h'.get? c=some o:=by obtain⟨o,ho,_⟩:=Y6;exact⟨o,ho⟩
  have kl:∀o,s.heap.get? env.locals=some o->h'.get? env.locals=some o:=fun o q=>keep _ o (Ne.symm ne) q;have kc:∀y c',env.cells.lookup y=some c'->y≠x->∀o,s.heap.get? c'=some o->h'.get? c'=some o:=fun y c' e hy o q=>keep c' o (fun z=>by subst z;exact hy (Ce.inj _ _ _ e hc)) q;refine k h' _ ⟨I.SN o1 keep live,⟨Ce.kind,Ce.fr,?_,fun y my e=>?_,fun y c' e=>?_,Ce.inj,Ce.glob,Ce.all⟩,iD.SN o1 keep live,rfl,rfl⟩ fun b o=>?_
  ·obtain⟨mm,hn⟩:=Ce.ns;exact⟨mm,Ns.at hn kl⟩
  ·rw[vg]at e;by_cases z:x=y
   ·subst z;rw[if_pos rfl]at e;rcases e with _|_
    exact⟨v,.inr ⟨.inl hk,c,hc,Y6⟩,r⟩
   ·rw[if_neg z]at e;refine bR (Ce.vars y my e) fun u hh r'=>?_;refine⟨u,?_,r'⟩;rcases hh with⟨k1,m1,n1,e1⟩|⟨k1,c',e1,ic1⟩
    ·exact .inl ⟨k1,m1,Ns.at n1 kl,e1⟩
    ·exact .inr ⟨k1,c',e1,IsCell.at ic1 (kc _ _ e1 (Ne.symm z))⟩
  ·obtain⟨o2,ne2,vo2,ic2⟩:=Ce.cells y c' e;by_cases z:y=x
   ·rw[z,hc]at e;rcases e with _|_
    exact⟨o1,ne,_,Y6⟩
   ·exact⟨o2,ne2,vo2,IsCell.at ic2 (kc _ _ e z)⟩
  ·by_cases hb:b=c
   ·exact .inl (.inr ⟨x,c,hc,hb⟩)
   ·exact .inr (keep b o hb)
 ·rcases hx with _|_
end
noncomputable def K8(W:Wd)(d:Nat)(hf:Ex)(ck:Sc->T->Stmt->Bool):Prop:=
 ∀(t:T) (x:Stmt) (env:Env) (ê:ak) (g:Gh) (σ:St) (s:Shared) (Q:KF) (A:Around),ck env.scope.names t x=true->ix d 2 A->Inv W g σ s.heap->aS W g env ê s.heap->hf t ê σ Q->
  wpAny (model W.prog W.w) A (exec x env) (kI W env g σ s Q) NE s
section
variable{W:Wd}{N:Nm}{G:Own}{A:Around}{s:Shared}{g cD:Gh}{σ ab:St}{env:Env}{ê rS:ak}{d n aJ:Nat}{C:Cl}{Q:KF}{h h' jE:Heap}
theorem mP{hf:Ex}{ck:Sc->T->Stmt->Bool}(X:K8 W d hf ck)(a:ix d 2 A):∀(ts:List T) (xs:List Stmt) (g:Gh) (σ:St) (s:Shared) (ê:ak) (Q:KF),qZ (ck env.scope.names) ts xs=true->Inv W g σ s.heap->aS W g env ê s.heap->gC hf ts ê σ Q->
  wpAny (model W.prog W.w) A (execs xs env) (kI W env g σ s Q) NE s
 |[],[],g,σ,s,ê,Q,hc,I,Ce,q=>wpAny_execs_nil ⟨.next,ê,g,σ,q,trivial,xH.refl I Ce⟩
 |t::ts,x::xs,g,σ,s,ê,Q,hc,I,Ce,q=>by
  obtain⟨h1,h2⟩:=Bool.and_eq_true_iff.mp (show(ck env.scope.names t x&&qZ (ck env.scope.names) ts xs)=true from hc);refine wpAny_execs_cons (cQ (X t x env ê g σ s _ A h1 a I Ce q) fun f s' o=>?_);refine MR (o) fun fl ed g' aF q r nx=>?_
  induction fl using Fl.casesOn with
  |next=>
   cases f<;>first|exact r.elim|skip
   exact kI.on nx (mP X a ts xs g' aF s' ed Q h2 nx.inv nx.bJ q)
  |cont=>
   rcases f with _|_<;>first|exact r.elim|skip
   exact⟨.cont,ed,g',aF,q,trivial,nx⟩
  |ret m=>
   rcases f with _|_<;>first|exact r.elim|skip
   exact⟨.ret m,ed,g',aF,q,r,nx⟩
 |[],_::_,_,_,_,_,_,hc,_,_,_=>by cases hc
 |_::_,[],_,_,_,_,_,hc,_,_,_=>by cases hc
noncomputable def yl(W:Wd)(env:Env)(g:Gh)(σ:St)(s:Shared)(K:ak->St->Prop):Unit->Shared->Prop:=
 fun _ s'=>∃ed g' aF,K ed aF/\xH W env g σ s ed g' aF s'
theorem yl.pre{K:ak->St->Prop}{bQ:Shared}(a:xH W env g σ s rS cD ab bQ){s':Shared}(x:yl W env cD ab bQ K () s'):yl W env g σ s K () s':=
 let⟨ed,g',aF,q,n⟩:=x;⟨ed,g',aF,q,a.trans n⟩
theorem GF(I:Inv W g σ s.heap)(Ce:aS W g env ê s.heap){x:Str}{m:ag}{v:Value}{K:ak->St->Prop}(hx:fk env.scope.names x=true)(r:bG W g m v)(q:K (jb x m ê) σ):
  wpAny (model W.prog W.w) A (storeName env x v) (yl W env g σ s K) NE s:=
 oP I Ce hx r fun h' tk nx _=>⟨_,g,σ,q,nx⟩
theorem wy{sc:Sc}:∀{xs:List Str} {ys:List Expr},vz sc xs ys=true->(assignEach ys env).length=xs.length/\List.findIdx? (fun x=>x.fst) (assignEach ys env)=none:=by
 intro l0
 induction l0 with
 |nil=>
  intro l1;rcases l1 with _|⟨y0,nR⟩
  ·intro _;exact⟨rfl,rfl⟩
  ·intro hc;cases hc
 |cons x xs ih=>
  intro l1;rcases l1 with _|⟨y,ys⟩
  ·intro hc;cases hc
  ·intro hc;refine bc fun bf=>?_;obtain⟨h,h3⟩:=cx hc;obtain⟨a,b⟩:=ih h3;refine bf ?_;refine dW h fun y p h=>⟨congrArg (·+1) a,?_⟩;show List.findIdx? (fun x=>x.fst) ((false,_)::assignEach ys env)=none;rw[List.findIdx?_cons,b];rfl
theorem th:∀{xs:List Str} {l:List D} {ê:ak} {K:ak->Prop},tJ xs l ê K->xs.length=l.length:=by
 intro l0
 induction l0 with
 |nil=>
  intro l1;rcases l1 with _|⟨y0,nR⟩
  ·intro _ _ _;exact rfl
  ·intro _ _ q;exact q.elim
 |cons x0 Jq ih=>
  intro l1;rcases l1 with _|⟨y0,nR⟩
  ·intro _ _ q;exact q.elim
  ·intro _ _ q;exact congrArg (·+1) (ih q)
theorem CP:∀(xs:List Str) (ys:List Expr) (l:List D) (vs:List Value) (as:List Addr) (g:Gh) (σ:St) (s:Shared) (ê:ak) (K:ak->Prop),vz env.scope.names xs ys=true->Inv W g σ s.heap->aS W g env ê s.heap->ReadsAll g.B vs l as->tJ xs l ê K->
  wpAny (model W.prog W.w) A (assignInOrder (List.map (fun x=>x.snd) (assignEach ys env)) vs) (yl W env g σ s fun ed aF=>aF=σ/\K ed) NE s:=by
 intro l0
 induction l0 with
 |nil=>
  intro ys l vs as g σ s ê K hc I Ce hr q;rcases l with _|⟨d,ds⟩
  ·rcases ys with _|⟨y,ys⟩
   ·cases hr;exact wpAny_assignInOrder_none ⟨ê,g,σ,⟨rfl,q⟩,xH.refl I Ce⟩
   ·exact ff hc
  ·exact q.elim
 |cons x xs ih=>
  intro ys l vs as g σ s ê K hc I Ce hr q;rcases l with _|⟨d,ds⟩
  ·exact q.elim
  rcases ys with _|⟨y,ys⟩
  ·exact ff hc
  cases hr with
  |cons r rs=>
   obtain⟨h,h3⟩:=cx hc;refine dW h fun y p h=>dU h fun h1 h2=>?_;have e:=bj.mp h1;subst e;refine wpAny_assignInOrder_more (wpAny_assign_Name (oP (m:=.d d) I Ce h2 ⟨_,r⟩ fun h' tk nx _=>?_));exact cQ (ih ys ds _ _ g σ _ _ K h3 nx.inv nx.bJ rs q) fun _ _ o=>o.pre nx
theorem GG{M:Model}{o:Expr}{a:Str}{p:Pos}{v:Value}{R:Unit->Shared->Prop}(hx:wpAny M A (eval o env) (fun ov bQ=>wpAny M A (setAttr ov a v) R NE bQ) NE s):wpAny M A (assign (.Attribute o a p) env v) R NE s:=by
 rw[arm_assign_Attribute];refine wpAny_bind (wpAny_holding (wpAny_mono hx (fun ov bQ jE=>?_) fun _ _ x=>x));refine wpAny_bind (wpAny_standAt (wpAny_bind (wpAny_holding (wpAny_mono jE (fun _ pX sD=>?_) fun _ _ x=>x))));exact wpAny_release sD
theorem K9{M:Model}{o i:Expr}{p:Pos}{v:Value}{R:Unit->Shared->Prop}(hx:wpAny M A (eval o env) (fun ov bQ=>wpAny M A (eval i env) (fun iv pX=>wpAny M A (setItem ov iv v) R NE pX) NE bQ) NE s):wpAny M A (assign (.Subscript o i p) env v) R NE s:=by
 rw[arm_assign_Subscript];refine wpAny_bind (wpAny_holding (wpAny_mono hx (fun ov bQ jE=>?_) fun _ _ x=>x));refine wpAny_bind (wpAny_holding (wpAny_mono jE (fun iv pX sD=>?_) fun _ _ x=>x));refine wpAny_bind (wpAny_standAt (wpAny_bind (wpAny_holding (wpAny_mono sD (fun _ acz Y7=>?_) fun _ _ x=>x))));exact wpAny_release Y7
theorem Fj(H:iJ W N G)(IH:ek W d (ev G C n) (aH N aJ))(a:ix d 2 A):∀(l:List (E×Str)) (ys:List Expr) (ds:List D) (vs:List Value) (as:List Addr) (g:Gh) (σ:St) (s:Shared) (K:St->Prop),tO N.attrs (aH N aJ env.scope.names) l ys=true->Inv W g σ s.heap->aS W g env ê s.heap->ReadsAll g.B vs ds as->zh (ev G C n) l ds ê σ K->
  wpAny (model W.prog W.w) A (assignInOrder (List.map (fun x=>x.snd) (assignEach ys env)) vs) (yl W env g σ s fun ed aF=>ed=ê/\K aF) NE s:=by
 intro l0
 induction l0 with
 |nil=>
  intro ys ds vs as g σ s K hc I Ce hr q;rcases ds with _|⟨d,ds⟩
  ·rcases ys with _|⟨y,ys⟩
   ·cases hr;exact wpAny_assignInOrder_none ⟨ê,g,σ,⟨rfl,q⟩,xH.refl I Ce⟩
   ·exact ff hc
  ·exact q.elim
 |cons p l ih=>
  intro ys ds vs as g σ s K hc I Ce hr q;rcases ds with _|⟨dd,ds⟩
  ·exact q.elim
  rcases ys with _|⟨y,ys⟩
  ·exact ff hc
  rcases hr with _|⟨r,rs⟩;obtain⟨h,h4⟩:=cx hc;refine lr h fun vo b pp h=>iA h fun h1 h2 h3=>?_;have e:=bj.mp h1;subst e;refine wpAny_assignInOrder_more (GG (aR.go (IH _ _ env ê g σ s _ A h3 a I Ce q) fun m ov g' aF s' q r' nx=>?_));refine cQ (qD H nx.inv nx.bJ h2 r' (m:=.d dd) ⟨_,Reads.keeps nx.post.bm r⟩ q) fun _ s2 o=>?_;refine n6 (o) fun g2 tW q2 iB=>?_;have NX:=(nx.trans iB).toS;exact cQ (ih ys ds _ _ g2 tW s2 K h4 iB.inv iB.bJ (ReadsAll.keeps (fun b o e=>iB.post.bm _ _ (nx.post.bm _ _ e)) rs) q2) fun _ _ o=>o.pre NX
theorem Fm{ck:E->Expr->Bool}{as:List Str}:∀{l:List (E×Str)} {ys:List Expr},tO as ck l ys=true->(assignEach ys env).length=l.length/\List.findIdx? (fun x=>x.fst) (assignEach ys env)=none:=by
 intro l0
 induction l0 with
 |nil=>
  intro l1;rcases l1 with _|⟨y0,nR⟩
  ·intro _;exact⟨rfl,rfl⟩
  ·intro hc;cases hc
 |cons x xs ih=>
  intro l1;rcases l1 with _|⟨y,ys⟩
  ·intro hc;cases hc
  ·intro hc;refine bc fun bf=>?_;obtain⟨h,h3⟩:=cx hc;obtain⟨a,b⟩:=ih h3;refine bf ?_;refine lr h fun v _ p h=>⟨congrArg (·+1) a,?_⟩;show List.findIdx? (fun x=>x.fst) ((false,_)::assignEach ys env)=none;rw[List.findIdx?_cons,b];rfl
theorem Y8{sc:Sc}{y:Str}{x:Expr}(hc:zt N n sc (.x y) x=true):∃p,x=.Name y p/\fk sc y=true:=by
 refine dW hc fun z p hc=>dU hc fun h1 h2=>?_;cases bj.mp h1;exact⟨_,rfl,h2⟩
theorem La{sc:Sc}{o:E}{nm:Str}{x:Expr}(hc:zt N n sc (.attr o nm) x=true):∃v p,x=.Attribute v nm p/\uj nm N.attrs=true/\aH N n sc o v=true:=by
 refine lr hc fun v b p hc=>iA hc fun h1 h2 h3=>?_;cases bj.mp h1;exact⟨_,_,rfl,h2,h3⟩
theorem Pw{sc:Sc}{o i:E}{x:Expr}(hc:zt N n sc (.sub o i) x=true):∃v w p,x=.Subscript v w p/\aH N n sc o v=true/\aH N n sc i w=true:=by
 exact pn hc fun v w p hc=>iA hc fun h1 h2 h3=>⟨_,_,_,rfl,h2,h3⟩
theorem Px{sc:Sc}{xs:List Str}{x:Expr}(hc:zt N n sc (.tup xs) x=true):∃ys k p,x=.Tuple ys k p/\vz sc xs ys=true:=by
 exact qW hc fun ys k p hc=>⟨_,_,_,rfl,(cx hc).1⟩
theorem Lb{sc:Sc}{l:List (E×Str)}{x:Expr}(hc:zt N n sc (.atts l) x=true):∃ys k p,x=.Tuple ys k p/\tO N.attrs (aH N n sc) l ys=true:=by
 exact qW hc fun ys k p hc=>⟨_,_,_,rfl,hc⟩
theorem yR{h h':Heap}(e:Heap.ExtBut h.objs.size h h'):∀b o,h.get? b=some o->h'.get? b=some o:=fun b o q=>e b o (fun z=>by rw[z,cY h]at q;rcases q with _|_) q
theorem Ar(a:ix d 2 A)(I:Inv W g σ s.heap)(Ce:aS W g env ê s.heap){ys:List Expr}{k:Nat}{p:Pos}{l:List D}{v:Value}{R:Unit->Shared->Prop}(r:dQ g.B (.tuple l) v)(hl:(assignEach ys env).length=l.length)(hf:List.findIdx? (fun x=>x.fst) (assignEach ys env)=none)
  (kk:∀(vs:List Value) as (s':Shared),ReadsAll g.B vs l as->dP W env ê g σ s g σ s'->wpAny (model W.prog W.w) A (assignInOrder (List.map (fun x=>x.snd) (assignEach ys env)) vs) R NE s'):wpAny (model W.prog W.w) A (assign (.Tuple ys k p) env v) R NE s:=by
 refine dv r fun t vs as ht ra=>?_;refine wpAny_assign_Tuple a.handled (cC I.gP ht) (by rw[hl,<-readsAll_len ra];simp) hf fun h' he=>?_;have nx:dP W env ê g σ s g σ {s with heap:=h'}:=dP.ki I Ce (yR he) rfl rfl;have:=kk vs as _ ra nx
 simpa using this
theorem Vk{sc:Sc}{o k:E}{x:Expr}(hc:zt N n sc (.cut o k) x=true):∃v s p,x=.Subscript v s p:=
 vu (motive:=fun x=>∃v s p,x=.Subscript v s p) hc fun _ _ _ _ _ _ _ _ _ _ _ _=>⟨_,_,_,rfl⟩
theorem NF(H:iJ W N G)(a:ix d 2 A)(I:Inv W g σ s.heap)(Ce:aS W g env ê s.heap){o nn:E}{x:Expr}{m:ag}{v:Value}{K:ak->St->Prop}(hc:zt N aJ env.scope.names (.cut o nn) x=true)(r:bG W g m v)
  (q:jK m fun z=>dL z fun l=>kg l (ev G C n o ê σ (T5 (ev G C n) nn ê K))):wpAny (model W.prog W.w) A (assign x env v) (yl W env g σ s K) NE s:=by
 refine vu hc fun v2 vp ln lp v' Jr cp w bp sp pos hc=>vq hc fun h1 h2 h3 h4 h5 h6 h7=>?_;have e1:=bj.mp h1;have e4:=bj.mp h4;subst e1 e4;clear hc;revert h5 h6 q;refine yD h7 fun xo xk=>?_;intro q h5 h6
 induction aJ using Nat.casesAuxOn with
 |zero=>exact ff h5
 |succ aJ=>
 induction n using Nat.casesAuxOn with
 |zero=>exact cN q fun z q=>JC q fun l q=>gY q fun q=>nf q
 |succ n=>
 obtain⟨a1,a2⟩:=cx h5;refine n9 (cX a1) fun uz hd _ xF=>?_;subst uz;refine dW h6 fun z zp h6=>dU h6 fun b1 b2=>?_;refine n9 (cX b1) fun uz Kv _ Rb=>?_;subst uz;refine bc fun hn=>?_;revert r;refine cN q fun z q=>JC q fun l q=>gY q fun q r=>?_;have q:oS (dF _ ê) fun mv=>oS (dF _ ê) fun mk=>Jo (res σ mv) fun i=>jK (res σ mk) fun y=>dI y fun kk=>zN kk fun m=>oL (σ.n4 i) fun c r=>kg c ((m<=r.length/\r.length<=ah)/\K ê (σ.lj i (some (.list [] (r.drop m))))):=q;refine lN q fun mv Y3 q=>lN q fun mk Y4 q=>?_;refine bR (Ce.vars _ _ Y3) fun vv hh rr=>?_;refine bR (Ce.vars _ _ Y4) fun vk Y5 rk=>?_;have rr:=rN I rr;have rk:=rN I rk;revert rr rk;refine tI q fun i q=>cN q fun y q=>ui q fun kk q=>JD q fun m q=>qS q fun c r' es q=>?_;revert es;refine gY q fun q es rr rk=>hn ?_;refine bc fun bf=>?_;obtain⟨⟨hm,hb⟩,q⟩:=q;obtain⟨tk,rfl⟩:=i6 (show dQ g.B (.int (m:Int)) vk from rk);refine bf ?_;refine lY (ij I es) fun pp ws k' e1 o1 hg hr=>?_;refine bR (rr) fun pp' e2 jc=>?_;subst jc;obtain rfl:=Option.some.inj (Option.some.inj (e1.symm.trans e2));have e0:=d7 hr;rw[ik,List.length_nil,Nat.zero_add]at e0;have Pt:ws.toArray.size=r'.length:=by simp[e0]
 refine n8 (lz r) fun ae vse ase nY hae re=>?_;subst nY;rcases re with _|_;have qQ:pp.1≠ae:=fun z=>by
  refine bR (hae) fun o ho _=>?_;have:=I.lO _ _ ho;rw[<-z,o1]at this;rcases this with _|_
 refine K9 (ly (h:=s.heap) Ce.kind hh hd ?_ (.inl xF));refine wpAny_Slice (wpAny_BinOp (wpAny_Call_ofName (rP H I Ce h3 (by rw[CN];decide) H.bl.1 H.bl.2 ?_)));have Ny:backTo cp (starEach [Expr.Name v2 Jr] env)=[(false,eval (.Name v2 Jr) env)]:=rfl;refine az (Ny) ?_;refine callWith_builtin rfl (evalArgs_plain (spliced_cons (ly (h:=s.heap) Ce.kind hh hd (spliced_nil ?_) (.inl xF))));refine PyProof.Rows.len_list (fP hg) (by rw[Pt];exact jr hb) ?_;refine ly (h:=s.heap) (env:=env) Ce.kind Y5 Kv ?_ (.inl Rb);refine sub_int ?_;refine wpAny_pure (wpAny_pure ?_);dsimp only;refine az (Pt) ?_;have ei:((r'.length:Int)-(m:Int))=((r'.length-m:Nat):Int):=by omega
 refine az (ei) ?_;have nx:∀tk,dP W env ê g σ s g σ {s with heap:=s.heap.push {cls:=.type "slice",data:=.fields #[.int ((r'.length-m:Nat):Int) (s.toks+1+1),.none,.none]},toks:=tk}:=fun tk=>dP.ki I Ce (fun b o e=>Heap.get?_push_of_some _ e) rfl rfl;have W0:=Heap.get?_push_of_some {cls:=.type "slice",data:=.fields #[.int ((r'.length-m:Nat):Int) (s.toks+1+1),.none,.none]} hg;refine Cx W0 (Heap.IsSliceOf.new _ _ _ _) (bZ (nx 0).inv.gP hae) qQ (by rw[Pt];exact Nat.sub_le _ _) (by rw[Pt];exact eI hb) fun f hf=>?_;have je:=Cy (r'.length-m) hr;rw[<-E5]at je;have iB:=oH (us:=ws.take (r'.length-m)) (x:=.b i) (c':=[]) (r':=r'.drop m) (nx (s.toks+1+1+1)).inv (nx (s.toks+1+1+1)).bJ ⟨pp,e1,rfl⟩ (show σ.obj (.b i)=_ from es) rfl W0 f (by rw[hf,Ak]) je (fun _ _=>rfl) (fun _ z=>nomatch z);exact⟨ê,g,_,q,((nx _).trans iB).toS⟩
set_option tactic.hygienic true in
theorem Rd(H:iJ W N G)(IH:ek W d (ev G C n) (aH N aJ))(a:ix d 2 A)(I:Inv W g σ s.heap)(Ce:aS W g env ê s.heap){tg:Tg}{x:Expr}{m:ag}{v:Value}{K:ak->St->Prop}(hc:zt N aJ env.scope.names tg x=true)(r:bG W g m v)(q:MX (ev G C n) tg m ê σ K):
  wpAny (model W.prog W.w) A (assign x env v) (yl W env g σ s K) NE s:=by
 induction tg using Tg.casesOn with
 |x y=>
  refine bR (Y8 hc) fun p Kz h2=>?_;subst Kz;exact wpAny_assign_Name (GF I Ce h2 r q)
 |attr o a2=>
  refine Qb (La hc) fun o' p jc h2 h3=>?_;subst jc;refine GG (aR.go (IH _ _ env ê g σ s _ A h3 a I Ce q) fun mo ov g' aF s' q r' nx=>?_);obtain⟨hv,q⟩:=f9 q;refine cQ (qD H nx.inv nx.bJ h2 r' (nx.rep r hv) q) fun _ s2 o=>?_;refine n6 (o) fun g2 tW q2 iB=>?_;exact⟨ê,g2,tW,q2,(nx.trans iB).toS⟩
 |sub o i=>
  refine n8 (Pw hc) fun v' w' p nY h2 h3=>?_;subst nY;refine K9 (aR.go (IH _ _ env ê g σ s _ A h2 a I Ce q) fun mo ov g' aF s' q r' nx=>?_);refine aR.go (IH _ _ env ê g' aF s' _ A h3 a nx.inv nx.bJ q) fun mi iv g2 tW s2 q r2 iB=>?_;obtain⟨hv,q⟩:=f9 q;obtain⟨Q5,q⟩:=f9 q;refine cQ (E7 H iB.inv iB.bJ (iB.rep r' Q5) r2 ((nx.trans iB).rep r hv) q) fun _ s3 o=>?_;refine n6 (o) fun g3 nZ q3 k7=>?_;exact⟨ê,g3,nZ,q3,((nx.trans iB).trans k7).toS⟩
 |cut o nn=>exact NF H a I Ce hc r q
 |tup xs=>
  refine bc fun hn=>?_;revert r;refine cN q fun z q=>JB q fun l q r=>hn ?_;refine qj (Px hc) fun ys k p nY h2=>?_;subst nY;obtain⟨e1,e2⟩:=wy (env:=env) h2;refine Ar a I Ce r (e1.trans (th q)) e2 fun vs as s' ra nx=>?_;refine cQ (CP _ _ _ vs as g σ s' ê _ h2 nx.inv nx.bJ ra q) fun _ s2 o=>?_;refine qj (o) fun ed g' aF NG lM=>?_;obtain⟨e,q'⟩:=NG;subst e;exact⟨ed,g',_,q',nx.toS.trans lM⟩
 |atts l=>
  refine bc fun hn=>?_;revert r;refine cN q fun z q=>JB q fun ds q r=>hn ?_;refine u7 q fun hl q=>?_;refine qj (Lb hc) fun ys k p nY h2=>?_;subst nY;obtain⟨e1,e2⟩:=Fm (env:=env) h2;refine Ar a I Ce r (e1.trans (Nat.eq_of_beq_eq_true hl)) e2 fun vs as s' ra nx=>?_;refine cQ (Fj H IH a _ _ _ vs as g σ s' _ h2 nx.inv nx.bJ ra q) fun _ s2 o=>?_;refine qj (o) fun ed g' aF NG lM=>?_;obtain⟨e,q'⟩:=NG;subst e;exact⟨_,g',_,q',nx.toS.trans lM⟩
end
section
variable{W:Wd}{N:Nm}{G:Own}{A:Around}{s:Shared}{g cD:Gh}{σ ab:St}{env:Env}{ê rS:ak}{d n aJ:Nat}{C:Cl}{Q:KF}{h h' jE:Heap}
theorem Io(Ce:aS W g env ê h):interactive env=false:=by
 unfold interactive;rw[Ce.kind];rfl
theorem lC{v:Expr}{t:Option Expr}{l:Nat}(hv:(!uM v)=true):swapsWith v t l env=pure false:=by
 rcases v with _|_<;>first|rfl|rcases hv with _|_
theorem Rf(IH:ek W d (ev G C n) (aH N aJ))(a:ix d 2 A)(I:Inv W g σ s.heap)(Ce:aS W g env ê s.heap){e:E}{x:Stmt}(hc:l5 N (aJ+1) env.scope.names (.expr e) x=true)
  (q:ev G C n e ê σ fun _ ab=>Q .next ê ab):wpAny (model W.prog W.w) A (exec x env) (kI W env g σ s Q) NE s:=by
 refine Hq hc fun v pos hc=>dU hc fun h1 h2=>?_;exact wpAny_Expr_any (aR.go (IH e v env ê g σ s _ A h1 a I Ce q) fun m u g' aF s' q r nx=>⟨.next,ê,g',aF,q,trivial,nx.toS⟩) (Io Ce) (lC h2)
theorem Rg(I:Inv W g σ s.heap)(Ce:aS W g env ê s.heap){x:Stmt}(hc:l5 N (aJ+1) env.scope.names .pass x=true)(q:Q .next ê σ):wpAny (model W.prog W.w) A (exec x env) (kI W env g σ s Q) NE s:=by
 exact J3 hc fun _ _=>wpAny_Pass ⟨.next,ê,g,σ,q,trivial,xH.refl I Ce⟩
theorem Rh(I:Inv W g σ s.heap)(Ce:aS W g env ê s.heap){x:Stmt}(hc:l5 N (aJ+1) env.scope.names .cont x=true)(q:Q .cont ê σ):wpAny (model W.prog W.w) A (exec x env) (kI W env g σ s Q) NE s:=by
 exact J5 hc fun _ _=>wpAny_Continue ⟨.cont,ê,g,σ,q,trivial,xH.refl I Ce⟩
theorem Vl(IH:ek W d (ev G C n) (aH N aJ))(a:ix d 2 A)(I:Inv W g σ s.heap)(Ce:aS W g env ê s.heap){e:Option E}{x:Stmt}(hc:l5 N (aJ+1) env.scope.names (.ret e) x=true)
  (q:ex G C (n+1) (.ret e) ê σ Q):wpAny (model W.prog W.w) A (exec x env) (kI W env g σ s Q) NE s:=by
 refine Na hc fun v pos hc=>?_
 induction e using Option.casesOn with
 |none=>
  induction v using Option.casesOn with
  |none=>exact wpAny_Return_none ⟨.ret (.d .none),ê,g,σ,q,⟨mM,rfl⟩,xH.refl I Ce⟩
  |some v=>cases hc
 |some e=>
  induction v using Option.casesOn with
  |none=>cases hc
  |some v=>
   refine wpAny_Return_some (aR.go (IH e v env ê g σ s _ A hc a I Ce q) fun m u g' aF s' q r nx=>?_);refine lY (yM nx.inv nx.bJ r q) fun m' g2 tW q2 r2 nt iB=>?_;exact⟨.ret m',ê,g2,tW,q2,⟨r2,nt⟩,(nx.trans iB).toS⟩
theorem Fn{x value:Expr}{pos:Pos}{M:Model}{R:Flow->Shared->Prop}(hx:assignEach [x] env=[(false,assign x env)])(hs:swapsWith value (some x) pos.line env=pure false)(hw:swappedStores [x] value env=pure none)
  (hh:wpAny M A (eval value env) (fun v bQ=>wpAny M A (assign x env v) (fun _=>R .next) NE bQ) NE s):wpAny M A (exec (.Assign [x] value pos) env) R NE s:=by
 refine wpAny_Assign_stores (cQ hh fun v bQ jE=>?_) hs hw;refine az (hx) ?_;exact jE
theorem iD.drop{g':Gh}{aF:St}{sD:Heap}(P:iD g σ h g' aF h'){a:Addr}(hn:h.get? a=none)(k:∀b o,b≠a->h'.get? b=some o->sD.get? b=some o):iD g σ h g' aF sD:=by
 refine⟨P.bm,fun b o e f=>?_,fun b o e f=>?_,fun b o e f=>?_,P.lb,P.lt,P.gm⟩
 ·refine n7 (P.fo b o e f) fun x y z=>?_;exact⟨k _ _ (fun q=>by rw[q,hn]at e;rcases e with _|_) x,y,z⟩
 ·obtain⟨⟨o',x⟩,y⟩:=P.fr b o e f;exact⟨⟨o',k _ _ (fun q=>by rw[q,hn]at e;rcases e with _|_) x⟩,y⟩
 ·obtain⟨⟨o',x⟩,y⟩:=P.co b o e f;exact⟨⟨o',k _ _ (fun q=>by rw[q,hn]at e;rcases e with _|_) x⟩,y⟩
theorem Ip{y:Expr}{gs:List Comprehension}{scope:Scope}{p:Pos}{t:Str}{tp:Pos}{l:Nat}:∃b,swapsWith (.ListComp y gs scope p) (some (.Name t tp)) l env=pure b:=⟨_,rfl⟩
theorem CQ{ck:E->Expr->Bool}{as:List Str}{f:Expr->Option Str}(hf:∀v b p,f (.Attribute v b p)=none):∀{l:List (E×Str)} {ys:List Expr},tO as ck l ys=true->ys.filterMap f=[]/\ys.length=l.length:=by
 intro l0
 induction l0 with
 |nil=>
  intro l1;rcases l1 with _|⟨y0,nR⟩
  ·intro _;exact⟨rfl,rfl⟩
  ·intro hc;cases hc
 |cons x xs ih=>
  intro l1;rcases l1 with _|⟨y,ys⟩
  ·intro hc;cases hc
  ·intro hc;obtain⟨h,h3⟩:=cx hc;obtain⟨a,b⟩:=ih h3;refine lr h fun v _ p h=>⟨?_,congrArg (·+1) b⟩;rw[List.filterMap_cons,hf];exact a
theorem As{ck:E->Expr->Bool}{as:List Str}{l:List (E×Str)}{ys vs:List Expr}{k k':Nat}{p p':Pos}(hc:tO as ck l ys=true)(hl:0<l.length):swappedStores [.Tuple ys k p] (.Tuple vs k' p') env=pure none:=by
 have hn:=fun(f:Expr->Option Str) (hf:∀v b p,f (.Attribute v b p)=none)=>CQ hf hc;unfold swappedStores;dsimp only;split
 ·rfl
 ·split
  ·rfl
  ·have aux:∀{f:Expr->Option Str},(ys.filterMap f=[]/\ys.length=l.length)->((ys.filterMap f).length != ys.length)=true:=fun{f} ⟨e,e'⟩=>by
    rw[e,e'];simp;exact Nat.ne_of_lt (ai hl)
   rw[if_pos];rw[Bool.or_eq_true];left;exact aux (hn _ (fun _ _ _=>rfl))
theorem tY{v:Expr}{ys:List Expr}{k:Nat}{p:Pos}(h:(!D7 v)=true):swappedStores [.Tuple ys k p] v env=pure none:=by
 rcases v with _|_<;>first|rfl|exact ff h
theorem CR{ck:E->Expr->Bool}{as:List Str}{l:List (E×Str)}{v:Expr}{ys:List Expr}{k:Nat}{p:Pos}(hc:tO as ck l ys=true)(hl:0<l.length):swappedStores [.Tuple ys k p] v env=pure none:=by
 rcases v with _|_<;>first|rfl|exact As hc hl
theorem Ri(H:iJ W N G)(HC:wo W d C)(hk:aJ<=n)(a:ix d 2 A)(I:Inv W g σ s.heap)(Ce:aS W g env ê s.heap){y:Str}{yp pos p:Pos}{Rj it:E}{Xf:Str}{cond:Option E}{fv:List Str}{elt:Expr}{gs:List Comprehension}{scope:Scope}
  (kL:fk env.scope.names y=true) (h2:aH N aJ env.scope.names (.comp Rj Xf it cond fv) (.ListComp elt gs scope p)=true) (hb:swapsWith (.ListComp elt gs scope p) (some (.Name y yp)) pos.line env=pure true)
  (q:ev G C n (.comp Rj Xf it cond fv) ê σ fun v ab=>MX (ev G C n) (.x y) v ê ab fun ed au=>Q .next ed au):wpAny (model W.prog W.w) A (exec (.Assign [.Name y yp] (.ListComp elt gs scope p) pos) env) (kI W env g σ s Q) NE s:=by
 refine az (exec_Assign_Name_used _ _ _ _ hb) ?_;refine wpAny_bind (wpAny_standAt (wpAny_bind ?_))
 induction aJ using Nat.casesAuxOn with
 |zero=>cases h2
 |succ aJ=>
 induction n using Nat.casesAuxOn with
 |zero=>exact q.elim
 |succ n=>
 clear hb;refine jh h2 fun gg h2=>vq h2 fun hg a5 a3 a6 a7 a8 a9=>?_;obtain⟨Y2,iter,ifs,asy⟩:=gg;obtain⟨hn,hg⟩:=cx hg;obtain⟨ha,a4⟩:=cx hg;have e0:=of_decide_eq_true ha;subst e0;have hn:iQ Y2 (fun t _=>fb t Xf&& !fb t nh)=true:=hn;have a3:aH N aJ env.scope.names it iter=true:=a3;have a4:(!isSet iter)=true:=a4;have a8:vy (aH N aJ (pU env.scope.names scope.names)) cond ifs=true:=a8;refine dW hn fun t tp hn=>dU hn fun a1 a2=>?_;have e:=bj.mp a1;subst e;have IH':∀m,m<=n->ek W d (ev G C n) (aH N m):=fun m hm=>K7 H HC n m hm;have Pp:scope.kind=.function:=by
  cases q:scope.kind<;>rw[q]at a9<;>first|rfl|exact ff a9
 have core:=yQ (R:=fun _ s'=>kI W env g σ s Q .next s') (use:=some (assign (.Name y yp) env)) (pl:=fun vs=>match qU vs with|some _=>.fz|none=>.Be) (p:=tp) (pos:=p) (pos':=firstIterPos [⟨.Name t tp,iter,ifs,0⟩] p) H IH' (Nat.le_of_succ_le_succ hk) a I Ce a3 a4 a7 Pp a6 a8 q fun m g' aF s' Da Cf hQ r nx nC hO hB Ii=>by
  obtain⟨mC,Ii⟩:=Ii;show wpAny _ A (assign (.Name y yp) env (.ref Da)) _ _ _;refine wpAny_assign_Name (oP nx.inv nx.bJ kL r fun h' tk iB SR=>?_);have hkC:∀o,s'.heap.get? Cf=some o->h'.get? Cf=some o:=fun o=>by
   rcases SR Cf o with z|z
   ·exfalso;rcases z with z|⟨x,c,e,z⟩
    ·refine Tc (Ce.ns) fun m0 o0 _ _ ho _=>?_;rw[<-z,nC]at ho;rcases ho with _|_
    ·obtain⟨_,_,vo,o0,ho,_⟩:=Ce.cells x c e;rw[<-z,nC]at ho;rcases ho with _|_
   ·exact z
  refine⟨mC,Ns.at Ii hkC,fun h2 sb=>?_⟩;have keep:∀b o,b≠Cf->h'.get? b=some o->h2.get? b=some o:=fun b o hb e=>sb.extBut b o hb e;have NX:=nx.toS.trans iB;have I':=NX.inv.drop (h':=h2) hO hB keep fun b e hb=>by
   cases z:h'.get? b with
   |none=>rfl
   |some o=>rw[keep b o hb z]at e;rcases e with _|_
  exact⟨.next,_,g',aF,hQ,trivial,I',NX.bJ.drop hO keep,NX.post.drop nC keep,NX.gens,NX.os⟩
 show wpAny _ A (do let _ <-comprehension (.ListComp elt [⟨.Name t tp,iter,ifs,0⟩] scope p) scope env (firstIterPos [⟨.Name t tp,iter,ifs,0⟩] p) (newList []) false (eval iter env) (some (assign (.Name y yp) env))) _ _ s;exact wpAny_bind (wpAny_mono core (fun _ s' o=>wpAny_pure (wpAny_pure o)) fun _ _ x=>x)
theorem Vm(H:iJ W N G)(HC:wo W d C)(IH:∀m,m<=n->ek W d (ev G C n) (aH N m))(hk:aJ<=n)(a:ix d 2 A)(I:Inv W g σ s.heap)(Ce:aS W g env ê s.heap){tg:Tg}{e:E}{x:Stmt}(hc:l5 N (aJ+1) env.scope.names (.asg tg e) x=true)
  (q:ev G C n e ê σ fun v ab=>MX (ev G C n) tg v ê ab fun ed au=>Q .next ed au):wpAny (model W.prog W.w) A (exec x env) (kI W env g σ s Q) NE s:=by
 refine Gm hc fun ts v pos hc=>jh hc fun t hc=>iA hc fun h1 h2 h3=>?_;clear hc;have plain:assignEach [t] env=[(false,assign t env)]->swapsWith v (some t) pos.line env=pure false->swappedStores [t] v env=pure none->wpAny (model W.prog W.w) A (exec (.Assign [t] v pos) env) (kI W env g σ s Q) NE s:=fun e1 e2 e3=>by
  refine Fn e1 e2 e3 (aR.go (IH aJ hk e v env ê g σ s _ A h2 a I Ce q) fun m u g' aF s' q r nx=>?_);refine cQ (Rd H (IH aJ hk) a nx.inv nx.bJ h1 r q) fun _ s2 o=>?_;refine qj (o) fun ed g2 tW q2 iB=>?_;exact⟨.next,ed,g2,tW,q2,trivial,nx.toS.trans iB⟩
 rcases Bf h3 with h3|h3
 ·obtain⟨hn,h3⟩:=cx h3;revert h3;revert plain;revert h1;refine Hs hn fun y yp h1 plain h3=>?_;rcases Bf h3 with h3|h3
  ·exact plain rfl (lC h3) rfl
  ·obtain⟨c1,h3⟩:=cx h3;obtain⟨c2,c3⟩:=cx h3;clear h3;revert plain;revert q;revert h2;revert h1;refine J7 c1 fun Rj Xf it cond fv=>Hr c2 fun elt gs scope p=>Up c3 fun z h1 h2 q plain=>?_;obtain⟨b,hb⟩:=Ip (env:=env) (y:=elt) (gs:=gs) (scope:=scope) (p:=p) (t:=y) (tp:=yp) (l:=pos.line)
   induction b using Bool.casesOn with
   |false=>exact plain rfl hb rfl
   |true=>
    refine bR (Y8 h1) fun _ heq kL=>?_;rcases heq with _|_;exact Ri H HC hk a I Ce kL h2 hb q
 ·obtain⟨hn,h3⟩:=cx h3;obtain⟨h4,h5⟩:=cx h3
  induction tg using Tg.casesOn with
  |x y=>
   refine bR (Y8 h1) fun p Kz _=>?_;subst Kz;exact ff hn
  |attr o b=>
   refine n6 (La h1) fun o' p jc _=>?_;subst jc;exact plain rfl (lC h4) rfl
  |sub o b=>
   refine qj (Pw h1) fun o' w p nY _=>?_;subst nY;exact plain rfl (lC h4) rfl
  |cut o b=>
   obtain⟨o',w,p,nY⟩:=Vk h1;subst nY;exact plain rfl (lC h4) rfl
  |tup xs=>
   refine qj (Px h1) fun ys k p nY _=>?_;subst nY;refine plain rfl (lC h4) ?_;rcases Bf h5 with h5|h5
   ·exact ff h5
   rcases Bf h5 with h5|h5
   ·exact tY h5
   ·exact ff h5
  |atts l=>
   refine qj (Lb h1) fun ys k p nY h6=>?_;subst nY;refine plain rfl (lC h4) ?_;rcases Bf h5 with h5|h5
   ·exact ff h5
   rcases Bf h5 with h5|h5
   ·exact tY h5
   ·exact CR h6 (of_decide_eq_true h5)
end
section
variable{W:Wd}{N:Nm}{G:Own}{A:Around}{s:Shared}{g cD:Gh}{σ ab:St}{env:Env}{ê rS:ak}{d n aJ:Nat}{C:Cl}{Q:KF}{h h' jE:Heap}
theorem uA{sc:Sc}:∀{xs:List Str},vA sc xs=true->∀x∈xs,fk sc x=true/\dG sc x=some .local:=by
 intro l0
 induction l0 with
 |nil=>intro _ x hm;cases hm
 |cons y xs ih=>
  intro hx x hm;obtain⟨h1,h2⟩:=cx hx;rcases List.mem_cons.mp hm with rfl|hm
  ·split at h1
   ·next e=>exact⟨by unfold fk;rw[e],e⟩
   ·exact ff h1
  ·exact ih h2 x hm
theorem Lc:∀(xs:List Str) (l:List D) (vs:List Value) (as:List Addr) (g:Gh) (σ:St) (s:Shared) (ê:ak) (K:ak->Prop),(∀x∈xs,fk env.scope.names x=true)->Inv W g σ s.heap->aS W g env ê s.heap->ReadsAll g.B vs l as->tJ xs l ê K->
  wpAny (model W.prog W.w) A (assignInOrder (xs.map fun n=>bindName env n) vs) (yl W env g σ s fun ed aF=>aF=σ/\K ed) NE s:=by
 intro l0
 induction l0 with
 |nil=>
  intro l vs as g σ s ê K hc I Ce hr q;rcases l with _|⟨d,ds⟩
  ·cases hr;exact wpAny_assignInOrder_none ⟨ê,g,σ,⟨rfl,q⟩,xH.refl I Ce⟩
  ·exact q.elim
 |cons x xs ih=>
  intro l vs as g σ s ê K hc I Ce hr q;rcases l with _|⟨d,ds⟩
  ·exact q.elim
  ·cases hr with
   |cons r rs=>
    refine wpAny_assignInOrder_more (bindName_ (oP (m:=.d d) I Ce (hc x (.head _)) ⟨_,r⟩ fun h' tk nx _=>?_));exact cQ (ih ds _ _ g σ _ _ K (fun y hy=>hc y (.tail _ hy)) nx.inv nx.bJ rs q) fun _ _ o=>o.pre nx
theorem Au{h:Heap}{vs:List Value}{xs:List D}{as:List Addr}(r:ReadsAll h vs xs as):∃bs,ReadsAll h vs.reverse xs.reverse bs:=
 ll (motive:=fun vs xs=>∃bs,ReadsAll h vs.reverse xs.reverse bs) ⟨_,.nil⟩ (h1:=fun _ _ _ _ _ _ a r ⟨bs,q⟩=>by
  refine az (List.reverse_cons) ?_;refine az (List.reverse_cons) ?_;exact kH q (.cons a .nil)) r
set_option backward.match.sparseCases true in
theorem CS(hk:env.scope.kind=.function){x1 x2:Str}{p1 p2 p p':Pos}{vs:List Expr}{k k':Nat}(l1:env.kindOf x1=some .local)(l2:env.kindOf x2=some .local)(hl:(p1.line==p2.line)=true)(hd:x1≠x2)(h6:vs.length=2)
  (h8:(!(vs.all (foldedForSure 8)))=true) (h9:(!(vs.all (constantsAlone 8)))=true) (QO:(!vs.any isStar)=true):swappedStores [.Tuple [.Name x1 p1,.Name x2 p2] k p] (.Tuple vs k' p') env=pure (some [x1,x2]):=by
 have e:p1.line=p2.line:=eq_of_beq hl;have h8':vs.all (foldedForSure 8)=false:=by simpa using h8
 have h9':vs.all (constantsAlone 8)=false:=by simpa using h9
 have Y9:(vs.any fun|.Starred ..=>true|_=>false)=false:=by
  have e:isStar=fun x=>match x with|.Starred ..=>true|_=>false:=by
   funext x
   rcases x with _|_<;>rfl
  rw[<-e];simpa using QO
 have hb:(env.blockKind != ScopeKind.function)=false:=by unfold Env.blockKind;rw[hk];rfl
 have Kv:(x1==x2)=false:=by simpa using hd
 have hd2:(x2==x1)=false:=by simpa using Ne.symm hd
 unfold swappedStores;dsimp only;have er:([x1,x2]:List Str).eraseDups=[x1,x2]:=by
  simp[List.eraseDups_cons,hd2]
 have en:(List.filterMap (fun x=>match x with
  |Expr.Name id pos=>if(env.kindOf id==some .local&&pos.line==(([Expr.Name x1 p1,.Name x2 p2]:List Expr).head?.map (·.pos.line)).getD 0)=true then some id else none
  |_=>none) [Expr.Name x1 p1,.Name x2 p2])=[x1,x2]:=by
  have e1:(Expr.Name x1 p1).pos=p1:=rfl;simp[l1,l2,e1,e]
 refine az (if_neg (by rw[h6,hb];simp)) ?_;refine az (if_neg (fun z=>by have z':=Y9.symm.trans z;rcases z' with _|_)) ?_;rw[if_neg]
 ·refine az (if_neg (by rw[h8'];decide)) ?_;refine az (if_neg (by rw[h9'];decide)) ?_;exact congrArg (fun z=>pure (some z)) en
 ·intro z;have:∀{l:List Str},l=[x1,x2]->¬((l.length != ([Expr.Name x1 p1,Expr.Name x2 p2]:List Expr).length||l.eraseDups.length != l.length)=true):=fun{l} el=>by
   rw[el,er];simp
  exact this en z
theorem Vn(IH:ek W d (ev G C n) (aH N aJ))(a:ix d 2 A)(I:Inv W g σ s.heap)(Ce:aS W g env ê s.heap){xs:List Str}{e:E}{x:Stmt}(hc:l5 N (aJ+1) env.scope.names (.MF xs e) x=true)
  (q:ev G C n e ê σ fun v ab=>jK v fun z=>dT z fun l=>tJ xs.reverse l.reverse ê fun ed=>Q .next ed ab):wpAny (model W.prog W.w) A (exec x env) (kI W env g σ s Q) NE s:=by
 refine Gm hc fun ts v pos hc=>jh hc fun t hc=>qW hc fun ys k p hc=>qW hc fun vs k' p' hc=>vq hc fun h1 h2 h3 h4 h5 h6 h7=>l4 h7 fun h7 h8 h9 QO=>?_;clear hc;have loc:=uA h3;have hw:swappedStores [.Tuple ys k p] (.Tuple vs k' p') env=pure (some xs):=by
  clear h4;revert h1;refine Gi h7 fun z1 z2 h7=>dW h7 fun x1 p1 h7=>dW h7 fun x2 p2 h7 h1=>?_;rcases xs with _|⟨y1,_|⟨y2,_|⟨y3,l⟩⟩⟩
  ·exact ff h1
  ·exact ff (cx h1).2
  ·obtain⟨a1,h1⟩:=cx h1;obtain⟨a2,_⟩:=cx h1;have e1:=bj.mp (cx a1).1;have e2:=bj.mp (cx a2).1;subst e1 e2;have nd:=oK h2;refine CS Ce.kind ?_ ?_ h7 (fun z=>?_) (of_decide_eq_true h6) h8 h9 QO
   ·rw[gc rfl];exact(loc _ (.head _)).2
   ·rw[gc rfl];exact(loc _ (.tail _ (.head _))).2
   ·rw[z]at nd;simp at nd
  ·exact ff (cx (cx h1).2).2
 refine Assign_Tuple_swapped (names:=xs) (aR.go (IH e _ env ê g σ s _ A h4 a I Ce q) fun m u g' aF s' q r nx=>?_) rfl hw;refine bc fun hn=>?_;revert r;refine cN q fun z q=>JB q fun l q r=>hn ?_
 ·refine dv r fun t vals as ht ra=>?_;have el:=th q;rw[List.length_reverse,List.length_reverse]at el;have e2:xs.length=vals.toArray.size:=by rw[el,<-readsAll_len ra];simp
  refine az (e2) ?_;refine unpackItems_tuple a.handled (cC nx.inv.gP ht) fun h' he=>?_;have iB:dP W env ê g' aF s' g' aF {s' with heap:=h'}:=dP.ki nx.inv nx.bJ (yR he) rfl rfl;obtain⟨bs,rr⟩:=Au ra;have:=Lc (A:=A) xs.reverse l.reverse vals.reverse bs g' aF {s' with heap:=h'} ê _ (fun y hy=>(loc y (List.mem_reverse.mp hy)).1) iB.inv iB.bJ rr q;refine cQ (by simpa using this) fun _ s2 o=>?_;refine qj (o) fun ed g2 tW NG k7=>?_;obtain⟨e,q'⟩:=NG;subst e;exact⟨.next,ed,g2,_,q',trivial,(nx.trans iB).toS.trans k7⟩
theorem Iq{x:Str}{v:Value}{R:Value->Shared->Prop}{M:Model}(hk:env.scope.kind=.function)(hh:Yu env s.heap x v)(hx:fk env.scope.names x=true)(q:R v s):wpAny M A (loadName env x) R NE s:=by
 rcases hh with⟨k,m,n,e⟩|⟨k,c,e,ic⟩
 ·exact wpAny_loadName_local hk k n e q
 ·rcases k with k|k
  ·exact wpAny_loadName_cell hk k e ic q
  ·exfalso;unfold fk at hx;rw[gc rfl]at k;rw[k]at hx;rcases hx with _|_
theorem GH{prog:Program}{w:World}{op:Op}{o:Operator}{a b:Int}{t u:Tok}{K:Int->Prop}{R:Value->Shared->Prop}(ho:Hp op o=true)(q:Hk op a b K)(k:∀z tk t',K z->R (.int z t') {s with toks:=tk}):wpAny (model prog w) A (inplaceOp o (.int a t) (.int b u)) R NE s:=by
 cases Ge ho;unfold Hk at q;split at q
 ·exact AutoIntOps.iadd_0 (k _ _ _ q)
 ·exact AutoIntOps.isub_0 (k _ _ _ q)
 ·exact q.elim
theorem Vo(IH:ek W d (ev G C n) (aH N aJ))(a:ix d 2 A)(I:Inv W g σ s.heap)(Ce:aS W g env ê s.heap){y:Str}{op:Op}{e:E}{x:Stmt}(hc:l5 N (aJ+1) env.scope.names (.aug y op e) x=true)
  (q:oS (dF y ê) fun v=>jK v fun z=>dI z fun a=>ev G C n e ê σ fun w ab=>jK w fun z=>dI z fun b=>Hk op a b fun z=>Q .next (jb y (.d (.int z)) ê) ab):wpAny (model W.prog W.w) A (exec x env) (kI W env g σ s Q) NE s:=by
 refine Gn hc fun t o v pos hc=>dW hc fun y' yp hc=>l4 hc fun h1 h2 h3 h4=>?_;have e1:=bj.mp h1;subst e1;refine lN q fun v0 ei q=>?_;revert ei;refine cN q fun z q=>ui q fun i q ei=>?_
 ·refine bR (Ce.vars _ _ ei) fun u hh r=>?_;obtain⟨t,rfl⟩:=i6 (show dQ g.B (.int i) u from r);refine wpAny_AugAssign_Name (Iq Ce.kind hh h2 (aR.go (IH e v env ê g σ s _ A h4 a I Ce q) fun m u g' aF s' q r nx=>?_));refine bc fun hn=>?_;revert r;refine cN q fun z q=>ui q fun b q r=>hn ?_
  ·obtain⟨t',rfl⟩:=i6 r;refine GH h3 q fun z tk t2 hz=>?_;have iB:dP W env ê g' aF s' g' aF {s' with toks:=tk}:=dP.ki nx.inv nx.bJ (fun _ _ e=>e) rfl rfl;refine oP (m:=.d (.int z)) iB.inv iB.bJ h2 (ig _ _) fun h' tk k7 _=>?_;exact⟨.next,_,g',aF,hz,trivial,(nx.trans iB).toS.trans k7⟩
theorem Rk(H:iJ W N G)(IH:ek W d (ev G C n) (aH N aJ))(a:ix d 2 A)(I:Inv W g σ s.heap)(Ce:aS W g env ê s.heap){o:E}{nm:Str}{op:Op}{e:E}{x:Stmt}(hc:l5 N (aJ+1) env.scope.names (.DU o nm op e) x=true)
  (q:ev G C n o ê σ fun v ab=>Br v nm ab fun x=>ev G C n e ê ab fun w au=>jK x fun x=>dI x fun x=>jK w fun y=>dI y fun y=>Hk op x y fun z=>xK v ab au (og v nm (.d (.int z)) au fun eF=>Q .next ê eF)):wpAny (model W.prog W.w) A (exec x env) (kI W env g σ s Q) NE s:=by
 refine Gn hc fun t o' w pos hc=>lr hc fun v b ap hc=>qn hc fun h1 h2 h3 h4 h5=>?_;have e1:=bj.mp h1;subst e1;refine wpAny_AugAssign_AttributeAny (aR.go (IH o v env ê g σ s _ A h4 a I Ce q) fun mo ov g' aF s' q r nx=>?_);refine aR.go (Gw H nx.inv nx.bJ h2 r q) fun mx vx g2 tW s2 q2 r2 iB=>?_;refine bc fun bf=>?_;obtain⟨e,q2⟩:=q2;subst e;refine bf ?_;refine aR.go (IH e w env ê g2 _ s2 _ A h5 a iB.inv iB.bJ q2) fun mw vw g3 nZ s3 q3 r3 k7=>?_;refine bc fun hn=>?_;revert r2 r3;refine cN q3 fun z q3=>ui q3 fun i q3=>cN q3 fun z2 q3=>ui q3 fun j q3 r2 r3=>hn ?_
 ·refine aK r2 fun t=>?_;refine bc fun bf=>?_;obtain⟨t',rfl⟩:=i6 r3;refine bf ?_;refine GH h3 q3 fun z tk t2 hz=>?_;obtain⟨hv,hz⟩:=f9 hz;have Ib:dP W env ê g3 nZ s3 g3 nZ {s3 with toks:=tk}:=dP.ki k7.inv k7.bJ (fun _ _ e=>e) rfl rfl;refine cQ (qD H Ib.inv Ib.bJ h2 (k7.rep (iB.rep r (fun _=>rfl)) hv) (m:=.d (.int z)) (ig _ _) hz) fun _ s5 o=>?_;refine n6 (o) fun g5 YY q5 Xc=>?_;exact⟨.next,ê,g5,YY,q5,trivial,((((nx.trans iB).trans k7).trans Ib).trans Xc).toS⟩
theorem Vp(H:iJ W N G)(IH:∀m,m<=n->ek W d (ev G C n) (aH N m))(IX:K8 W d (ex G C n) (l5 N aJ))(hk:aJ<=n)(a:ix d 2 A)(I:Inv W g σ s.heap)(Ce:aS W g env ê s.heap){c:E}{t e:List T}{x:Stmt}(hc:l5 N (aJ+1) env.scope.names (.fM c t e) x=true)
  (q:DY (ev G C n) G.tab n c ê σ fun b' ab=>match b' with
   |true=>gC (ex G C n) t ê ab Q
   |false=>gC (ex G C n) e ê ab Q):wpAny (model W.prog W.w) A (exec x env) (kI W env g σ s Q) NE s:=by
 refine Nb hc fun u v w pos hc=>iA hc fun h1 h2 h3=>?_;refine wpAny_If (ux.go (Am H IH a n c u g σ s _ aJ hk h1 I Ce q) fun b g' aF s' q nx=>?_)
 induction b using Bool.casesOn with
 |true=>exact kI.on nx.toS (mP IX a t v g' aF s' ê Q h2 nx.inv nx.bJ q)
 |false=>exact kI.on nx.toS (mP IX a e w g' aF s' ê Q h3 nx.inv nx.bJ q)
theorem Vq(H:iJ W N G)(IH:∀m,m<=n->ek W d (ev G C n) (aH N m))(IX:K8 W d (ex G C n) (l5 N aJ))(hk:aJ<=n)(a:ix d 2 A)(I:Inv W g σ s.heap)(Ce:aS W g env ê s.heap){c:E}{b:List T}{x:Stmt}(hc:l5 N (aJ+1) env.scope.names (.Qg c b) x=true)
  (q:zi (DY (ev G C n) G.tab n c) (ex G C n) b DX ê σ Q):wpAny (model W.prog W.w) A (exec x env) (kI W env g σ s Q) NE s:=by
 refine QA hc fun u v els pos hc=>tN hc fun hc=>dU hc fun h1 h2=>?_;refine wpAny_While (codeAny_whileLoop (fun k s'=>∃ed g' aF,zi (DY (ev G C n) G.tab n c) (ex G C n) b k ed aF Q/\xH W env g σ s ed g' aF s') ?_ DX ⟨ê,g,σ,q,xH.refl I Ce⟩)
 rintro k s' ⟨ed,g',aF,q,nx⟩
 induction k using Nat.casesAuxOn with
 |zero=>exact q.elim
 |succ k=>
  refine wpAny_mono (ux.go (Am (ê:=ed) H IH a n c u g' aF s' _ aJ hk h1 nx.inv nx.bJ q) fun t g2 tW s2 q2 iB=>?_) (fun _ _ z=>z) fun _ _ z=>z.elim
  induction t using Bool.casesOn with
  |false=>
   simp only[Bool.false_eq_true,if_false];exact wpAny_execs_nil ⟨.next,ed,g2,tW,q2,trivial,nx.trans iB.toS⟩
  |true=>
   simp only[if_true];refine wpAny_mono (mP IX a b v g2 tW s2 ed _ h2 iB.inv iB.bJ q2) (fun f s3 o=>?_) fun _ _ z=>z.elim;refine MR (o) fun fl Vr g3 nZ q3 r3 k7=>?_;have NX:=(nx.trans iB.toS).trans k7
   induction fl using Fl.casesOn with
   |next=>rcases f with _|_<;>first|exact r3.elim|exact⟨k,Nat.lt_succ_self _,Vr,g3,nZ,q3,NX⟩
   |cont=>rcases f with _|_<;>first|exact r3.elim|exact⟨k,Nat.lt_succ_self _,Vr,g3,nZ,q3,NX⟩
   |ret m=>rcases f with _|_<;>first|exact r3.elim|exact⟨.ret m,Vr,g3,nZ,q3,r3,NX⟩
end
inductive Vs(W:Wd)(env:Env)(xs:List D)(It:Nat->Heap->Prop)(Rel:Gh->Prop)(Ia:Addr)(cD:Gh)(ab:St)(bQ:Shared)(F:List D->ak->St->Prop)(k:Nat)(s':Shared):Prop
 |mk (ys:List D) (ed:ak) (g':Gh) (aF:St) (SU:xs.drop k=ys) (W6:k<=xs.length) (q:F ys ed aF) (I':Inv W g' aF s'.heap) (Za:aS W g' env ed s'.heap) (CJ:g'.O Ia=.no) (Ij:g'.B.get? Ia=none) (K4:It k s'.heap) (P:iD cD ab bQ.heap g' aF s'.heap) (Aq:Rel g') (SX:s'.gens=bQ.gens) (Ah:s'.os=bQ.os):Vs W env xs It Rel Ia cD ab bQ F k s'
section
variable{W:Wd}{N:Nm}{G:Own}{A:Around}{s:Shared}{g cD:Gh}{σ ab:St}{env:Env}{ê rS:ak}{d n aJ:Nat}{C:Cl}{Q:KF}{h h' jE:Heap}
theorem bG.Vt{g':Gh}{aF:St}(P:iD g σ h g' aF h'):∀{m:ag} {v:Value},kz m=false->bG W g m v->bG W g' m v:=by
 intro m v hv r
 induction m using ag.casesOn with
 |d _=>exact dQ.mono P.bm r
 |ob _ _=>exact Jy r fun a dx es n e h1 h2 h3=>⟨a,dx,es,n,e,P.bm _ _ h1,P.bm _ _ h2,h3.mono P.bm⟩
 |b i=>exact bR r fun p e ev=>⟨p,P.lb i p e (fun z=>ff ((show Bg i=false from hv).symm.trans z)),ev⟩
 |t i=>exact bR r fun a e ev=>⟨a,P.lt i a e,ev⟩
 |_=>exact r
set_option tactic.hygienic true in
theorem Ld(a:ix d 2 A)(I:Inv W g σ s.heap)(Ce:aS W g env ê s.heap){sC:List Str}{x:Expr}{dd:D}{v:Value}{K:ak->Prop}(hc:Un env.scope.names sC x=true)(r:dQ g.B dd v)(q:bind1 sC dd ê K):
  wpAny (model W.prog W.w) A (assign x env v) (yl W env g σ s fun ed aF=>aF=σ/\K ed) NE s:=by
 unfold bind1 at q;split at q
 ·exact q.elim
 ·rename_i y;rcases x with _|_<;>first|(rcases hc with _|_;done)|skip
  ·obtain⟨h1,h2⟩:=cx hc;have e:=bj.mp h1;subst e;exact wpAny_assign_Name (GF (m:=.d dd) I Ce h2 r ⟨rfl,q⟩)
  ·obtain⟨_,h⟩:=cx hc;exact ff (cx h).2
 ·rename_i y z rest;split at q
  ·rename_i l;rcases x with _|_<;>first|(rcases hc with _|_;done)|skip
   rename_i ys k p;have h1:=(cx hc).1;obtain⟨e1,e2⟩:=wy (env:=env) h1;refine Ar a I Ce r (e1.trans (th q)) e2 fun vs as s' ra nx=>?_;refine cQ (CP _ _ _ vs as g σ s' ê _ h1 nx.inv nx.bJ ra q) fun _ s2 o=>?_;refine qj (o) fun ed g' aF NG lM=>?_;obtain⟨e,q'⟩:=NG;exact⟨ed,g',aF,⟨e,q'⟩,nx.toS.trans lM⟩
  ·exact q.elim
theorem Vu(H:iJ W N G)(IH:∀m,m<=n->ek W d (ev G C n) (aH N m))(IX:K8 W d (ex G C n) (l5 N aJ))(hk:aJ<=n)(a:ix d 2 A)(I:Inv W g σ s.heap)(Ce:aS W g env ê s.heap){sC:List Str}{it:E}{b:List T}{x:Stmt}(hc:l5 N (aJ+1) env.scope.names (.gQ sC it b) x=true)
  (q:mA (ev G C n) it ê σ fun xs w ab=>forL (ex G C n) sC b w xs ê ab Q):wpAny (model W.prog W.w) A (exec x env) (kI W env g σ s Q) NE s:=by
 refine J1 hc fun tx iter body els pos hc=>tN hc fun hc=>l4 hc fun h1 h2 h3 h4=>?_;refine wpAny_For (cQ (K1 H IH hk a I Ce h2 q) fun xv sA hA=>cQ hA fun itv sB hB=>?_) (Vf h3);refine OZ (hB) fun xs w cD ab bQ Ia It Rel Y0 q nx S Pq Q7 nI hlen keep hg ho ok=>?_;subst Y0;have hOI:cD.O Ia=.no:=nx.inv.live _ nI;have hBI:cD.B.get? Ia=none:=jn nx.inv nI;obtain⟨IV,SS,YT⟩:=opq (Vs W env xs It Rel Ia cD ab bQ fun ys ed aF=>forL (ex G C n) sC b w ys ed aF Q) (xs.length+1);refine codeAny_forLoop_any IV ?_ (xs.length+1) (SS 0 _ ⟨xs,ê,cD,ab,rfl,Nat.zero_le _,q,(nx.inv.ki keep).1,nx.bJ.post (nx.inv.ki keep).2 (fun _=>rfl),hOI,hBI,Pq,(nx.inv.ki keep).2.s,Q7,hg,ho⟩);intro nn s' Vd;refine bc fun bf=>?_;obtain⟨k,rfl,ys,ed,g',aF,SU,W6,q,I',Za,CJ,Ij,K4,P,Aq,SX,Ah⟩:=YT nn s' Vd;refine bf ?_;clear bf Vd;have q:forL (ex G C n) sC b w ys ed aF Q:=q
 induction ys using List.casesOn with
 |nil=>
  obtain⟨Zb,q⟩:=lU (show jg w aF (Q .next ed aF)from q);have:=tX SU W6;subst this;refine S.done g' aF s' _ _ K4 I' Aq Zb CJ Ij fun h' tk kp=>wpAny_execs_nil ?_;have I2:=I'.drop (h':=h') CJ Ij kp fun b e hb=>by
   cases z:s'.heap.get? b with
   |none=>rfl
   |some o=>rw[kp b o hb z]at e;rcases e with _|_
  exact⟨.next,ed,g',aF,q,trivial,I2,Za.drop CJ kp,nx.post.s.trans (P.drop nI kp),SX.trans nx.gens,Ah.trans nx.os⟩
 |cons x ys=>
  refine n7 (nL SU) fun hx NC p9=>?_;obtain⟨Zb,q⟩:=lU q;refine S.item k g' aF s' x _ _ K4 I' Aq Zb CJ Ij hx fun v h' tk Q5 CK kp=>?_;have I2:=I'.drop (h':=h') CJ Ij kp fun b e hb=>by
   cases z:s'.heap.get? b with
   |none=>rfl
   |some o=>rw[kp b o hb z]at e;rcases e with _|_
  have YV:=Za.drop (h':=h') CJ kp;have P2:=P.drop (sD:=h') nI kp;refine S.go (k+1) {s' with heap:=h',toks:=tk} tx v _ _ CK ?_;refine wpAny_mono (Ld (s:={s' with heap:=h',toks:=tk}) (σ:=aF) a I2 YV h1 Q5 q) (fun _ s3 o=>?_) fun _ _ z=>z.elim;refine qj (o) fun Vr g3 nZ NG k7=>?_;obtain⟨e3,q3⟩:=NG;subst e3;refine wpAny_mono (mP IX a b body g3 _ s3 Vr _ h4 k7.inv k7.bJ q3) (fun f s4 o=>?_) fun _ _ z=>z.elim;refine MR (o) fun fl Zc g4 Xb q4 r4 Ib=>?_;have NX:=k7.trans Ib;obtain⟨oI,MK⟩:=S.live _ _ CK;refine n7 (NX.post.fo Ia _ MK CJ) fun i1 i2 i3=>?_;have nxt:∀q:forL (ex G C n) sC b w ys Zc Xb Q,∃m,m<xs.length+1-k/\IV m s4:=fun q=>
   ⟨xs.length+1-(k+1),by omega,SS (k+1) _ ⟨ys,Zc,g4,Xb,NC,p9,q,NX.inv,NX.bJ,i2,i3.trans Ij,S.fr _ _ _ CK (fun o e=>by rw[MK]at e;rcases e with _|_;exact i1),P2.trans NX.post,S.mono _ _ (fun m v hm r=>r.Vt NX.post hm) Aq,NX.gens.trans SX,NX.os.trans Ah⟩⟩
  induction fl using Fl.casesOn with
  |next=>rcases f with _|_<;>first|exact r4.elim|exact nxt q4
  |cont=>rcases f with _|_<;>first|exact r4.elim|exact nxt q4
  |ret m=>rcases f with _|_<;>first|exact r4.elim|exact⟨.ret m,Zc,g4,Xb,q4,r4,NX.inv,NX.bJ,nx.post.s.trans (P2.trans NX.post),(NX.gens.trans SX).trans nx.gens,(NX.os.trans Ah).trans nx.os⟩
theorem Py(H:iJ W N G)(HC:wo W d C):∀n m,m<=n->K8 W d (ex G C n) (l5 N m)
 |0,m,hm=>fun e x env ê g σ s Q A hc a I Ce q=>q.elim
 |n+1,0,hm=>fun e x env ê g σ s Q A hc a I Ce q=>by cases hc
 |n+1,k+1,hm=>fun e x env ê g σ s Q A hc a I Ce q=>by
  have IH:∀m,m<=n->ek W d (ev G C n) (aH N m):=fun m hm=>K7 H HC n m hm;have hk:k<=n:=Nat.le_of_succ_le_succ hm;have IX:=Py H HC n k hk;have ih:=IH k hk
  induction e using T.casesOn with
  |expr e=>exact Rf ih a I Ce hc q
  |pass=>exact Rg I Ce hc q
  |cont=>exact Rh I Ce hc q
  |ret e=>exact Vl ih a I Ce hc q
  |asg t e=>exact Vm H HC IH hk a I Ce hc q
  |MF xs e=>exact Vn ih a I Ce hc q
  |aug x op e=>exact Vo ih a I Ce hc q
  |DU o a' op e=>exact Rk H ih a I Ce hc q
  |fM c a' b=>exact Vp H IH IX hk a I Ce hc q
  |Qg c b=>exact Vq H IH IX hk a I Ce hc q
  |gQ tg it b=>exact Vu H IH IX hk a I Ce hc q
  |no=>exact q.elim
end
noncomputable def Av(W:Wd)(N:Nm)(P:Defs):Prop:=
 ∀f,(∃body sc,FnAt W f (P.par f) body sc/\qZ (l5 N 60 sc.names) (P.code f) body=true)\/P.code f=[.no]
section
variable{W:Wd}{N:Nm}{G:Own}{A:Around}{s:Shared}{g cD:Gh}{σ ab:St}{env:Env}{ê rS:ak}{d n aJ:Nat}{C:Cl}{h h' jE:Heap}{P:Defs}
theorem lD{x:Str}:∀(names:List (Str×NameKind)) (n:Nat) (acc:List (Str×Addr)),(x,NameKind.cell)∈names\/(∃c,acc.lookup x=some c)->∃c,(cellsFrom n names acc).lookup x=some c
 |[],n,acc,hx=>by
  rcases hx with hx|hx
  ·rcases hx with _|_
  ·exact hx
 |(y,k)::r,n,acc,hx=>by
  unfold cellsFrom;split
  ·refine lD r _ _ ?_;rcases hx with hx|⟨c,hx⟩
   ·rcases List.mem_cons.mp hx with e|hx
    ·rcases e with _|_;exact .inr ⟨n,by rw[List.lookup_cons,beq_self_eq_true]⟩
    ·exact .inl hx
   ·refine .inr ?_;refine az (List.lookup_cons) ?_;cases z:x==y with
    |true=>exact⟨n,rfl⟩
    |false=>exact⟨c,hx⟩
  ·rename_i hk;refine lD r _ _ ?_;rcases hx with hx|hx
   ·rcases List.mem_cons.mp hx with e|hx
    ·rcases e with _|_;exact absurd rfl hk
    ·exact .inl hx
   ·exact .inr hx
theorem lookup_mem{α:Type}{x:Str}{c:α}:∀{l:List (Str×α)},l.lookup x=some c->(x,c)∈l
 |(y,d)::l,e=>by
  rw[List.lookup_cons]at e;cases z:x==y with
  |true=>rw[z]at e;rcases e with _|_;rw[eq_of_beq z];exact .head _
  |false=>rw[z]at e;exact .tail _ (lookup_mem e)
theorem NH{x:Str}{m:ag}:∀{ps:List Str} {vs:List ag},dF x (ps.zip vs)=some m->x∈ps/\m∈vs:=by
 intro l0
 induction l0 with
 |nil=>
  intro _ e;cases e
 |cons p ps ih=>
  intro l1;rcases l1 with _|⟨v,vs⟩
  ·intro e;cases e
  ·intro e;have e:(match fb p x with|true=>some v|false=>dF x (ps.zip vs))=some m:=e;cases q:fb p x with
   |true=>rw[q]at e;rcases e with _|_;rw[<-bj.mp q];exact⟨.head _,.head _⟩
   |false=>rw[q]at e;obtain⟨a,b⟩:=ih e;exact⟨.tail _ a,.tail _ b⟩
theorem Le{cs:List (Str×Addr)}(hp:cs.Pairwise fun x y=>x.2≠y.2){x y:Str}{c:Addr}(h1:(x,c)∈cs)(h2:(y,c)∈cs):x=y:=by
 induction cs with
 |nil=>cases h1
 |cons p cs ih=>
  obtain⟨a,b⟩:=List.pairwise_cons.mp hp;rcases List.mem_cons.mp h1 with e1|h1
  ·rcases List.mem_cons.mp h2 with e2|h2
   ·rw[<-e1]at e2;rcases e2 with _|_;rfl
   ·exact absurd rfl (by have:=a _ h2;rw[<-e1]at this;exact this)
  ·rcases List.mem_cons.mp h2 with e2|h2
   ·exact absurd rfl (by have:=a _ h1;rw[<-e2]at this;exact this)
   ·exact ih b h1 h2
theorem NI(H:iJ W N G)(HD:Av W N P)(HC:wo W d (Cd G P d)):wo W (d+1) (Cd G P (d+1)):=by
 intro f vs vals g σ s A Q a I r nt q;have q:(match Nat.beq (P.par f).length vs.length with
  |true=>gC (ex G (Cd G P d) 60) (P.code f) ((P.par f).zip vs) {σ with temps:=[]} (fS Q)
  |false=>False):=q
 split at q
 ·rename_i hl;have hl:=Nat.eq_of_beq_eq_true hl;rcases HD f with⟨body,sc,F,Zd⟩|MG
  ·refine Tq (F.ob) fun o fd as ho KS xF Vv Fh Ze hgl CT Ir Zf has=>?_;have up:∀b o,W.h₀.get? b=some o->s.heap.get? b=some o:=fun b o e=>I.gP _ _ (I.fT _ _ e);have hvl:=d7 r;have Pz:bindArgs fd ⟨vals,[]⟩=pure ((as.map (·.arg)).zip vals):=vm Zf Ir (by rw[has];exact F.nd) (by rw[has,hl,hvl]);rw[has]at Pz;have kinds:∀x∈P.par f,fd.scope.names.lookup x=some .local\/fd.scope.names.lookup x=some .cell:=fun x hx=>by
    have:=List.all_eq_true.mp F.kinds x hx;rw[Fh]
    simpa using this
   refine codeAny_call_cells (by have:=a.depth;show _<1000;exact ai this) (up _ _ ho) KS (H.nolimit.keeps up) (xF.keeps up) Vv Pz Ze ?_ (fun bQ x=>?_) (by rw[Fh];exact F.co) (by rw[Fh];exact F.gen) (by rw[Fh];exact F.kind)
   ·intro x hx;rcases kinds x.1 (List.of_mem_zip hx).1 with q|q
    ·exact .inl q
    ·refine .inr ⟨q,?_⟩;obtain⟨c,e⟩:=lD (x:=x.1) fd.scope.names (s.heap.objs.size+1) [] (.inl (lookup_mem q));rw[e];rfl
   ·refine n6 (x.done) fun hh tk Vw keep=>?_;subst Vw;have hL:s.heap.get? s.heap.objs.size=none:=cY _
    let fr:Addr->Bool:=fun b=>@decide (b=s.heap.objs.size\/∃y,(cellsFrom (s.heap.objs.size+1) fd.scope.names []).lookup y=some b) (Classical.propDecidable _)
    have Zg:∀b,fr b=true↔(b=s.heap.objs.size\/∃y,(cellsFrom (s.heap.objs.size+1) fd.scope.names []).lookup y=some b):=fun b=>@decide_eq_true_iff _ (Classical.propDecidable _);have hf:∀b,fr b=true->s.heap.get? b=none/\∃o,hh.get? b=some o:=fun b e=>by
     rcases(Zg b).mp e with e|⟨y,e⟩
     ·subst e;refine⟨hL,?_⟩;refine qj (x.toInCall.ns) fun o _ _ ho _=>?_;exact⟨o,ho⟩
     ·have p9:=x.above y b (lookup_mem e);refine⟨?_,?_⟩
      ·cases z:s.heap.get? b with
       |none=>rfl
       |some o=>exact absurd (Heap.lt_size z) (Nat.not_lt.mpr (Nat.le_of_lt p9))
      ·refine bR (x.cell y b e) fun o ho _=>?_;exact⟨o,ho⟩
    have I1:=Qt (h':=hh) I keep hf;have JL:∀b,fr b=true->(xN g fr).O b=.fr:=fun b e=>by
     show(match fr b with|true=>Tag.fr|false=>jM (g.O b))=.fr;rw[e]
    have C1:aS W (xN g fr) (callEnvC fd s.heap.objs.size (W.fa f)) ((P.par f).zip vs) hh:=by
     have hkf:∀x,(callEnvC fd s.heap.objs.size (W.fa f)).kindOf x=fd.scope.names.lookup x:=fun x=>rfl;refine⟨by show fd.scope.kind=_;rw[Fh];exact F.kind,JL _ ((Zg _).mpr (.inl rfl)),⟨_,x.toInCall.ns⟩,fun y m e=>?_,fun y c e=>?_,fun y z c e1 e2=>?_,⟨hgl,CT⟩,fun y e=>?_⟩
     ·refine ja (BC (kf:=(callEnvC fd s.heap.objs.size (W.fa f)).kindOf) (m:=fun _=>none) (cm:=fun _=>none) F.nd hl r e) fun v rv b1 b2=>?_;obtain⟨m1,m2⟩:=NH e;refine⟨v,?_,bG.WV (g:=g) (g':=xN g fr) (fun _ _ e=>e) (fun _ _ e=>e) (sF nt _ m2) rv⟩;rcases kinds y m1 with k|k
      ·exact .inl ⟨k,_,x.toInCall.ns,b1 k⟩
      ·obtain⟨c,ec⟩:=lD (x:=y) fd.scope.names (s.heap.objs.size+1) [] (.inl (lookup_mem k));refine .inr ⟨.inl k,c,ec,?_⟩;have:=x.cell y c ec;rw[b2 (by rw[hkf,k];exact fun z=>nomatch z)]at this;exact this
     ·exact⟨JL _ ((Zg _).mpr (.inr ⟨y,e⟩)),Nat.ne_of_gt (x.above y c (lookup_mem e)),_,x.cell y c e⟩
     ·exact Le x.apart (lookup_mem e1) (lookup_mem e2)
     ·rw[hkf]at e;rcases e with e|e
      ·exact lD fd.scope.names _ [] (.inl (lookup_mem e))
      ·have:=List.all_eq_true.mp F.Qr _ (by rw[<-Fh];exact lookup_mem e);simp at this
    have aok:ix d 2 (A.deeper (callEnvC fd s.heap.objs.size (W.fa f))):=by
     refine⟨a.handled,?_,?_,a.guards⟩
     ·have:=a.depth;show A.depth+1+_+_<_;exact ai this
     ·have:=a.units;show A.units+3+_+_<_;exact ai this
    have Vc:(callEnvC fd s.heap.objs.size (W.fa f)).scope.names=sc.names:=by show fd.scope.names=_;rw[Fh]
    refine wpAny_mono (mP (Py H HC 60 60 (Nat.le_refl _)) aok (P.code f) body (xN g fr) (Qs σ) _ _ _ (by rw[Vc];exact Zd) I1 C1 q) (fun fl s' out=>?_) fun _ _ z=>z.elim;refine MR (out) fun fl' ed g' aF q rf nx=>?_;obtain⟨I2,P2⟩:=Qu I keep hf nx.inv nx.post;have fin:∀m v,Q m aF->ke m=true->bG W g' m v->Nx W g σ s Q (.ok (.ret v)) s':=fun m v q nt r=>
     ⟨m,sG g g',aF,q,nt,bG.WV (g:=g') (g':=sG g g') (fun _ _ e=>e) (fun _ _ e=>e) nt r,I2,P2,nx.gens,nx.os⟩
    induction fl' using Fl.casesOn with
    |next=>rcases fl with _|_<;>first|exact rf.elim|exact fin (.d .none) _ q rfl mM
    |cont=>exact q.elim
    |ret m=>
     rcases fl with _|_<;>first|exact rf.elim|skip
     rename_i v;obtain⟨rm,nt'⟩:=rf;have q:Q m aF:=by
      unfold fS at q;dsimp only at q;split at q
      ·exact q.elim
      ·exact q
     exact fin m v q nt' rm
  ·rw[MG]at q;exact q.elim
 ·exact q.elim
theorem PA(H:iJ W N G)(HD:Av W N P):∀d,wo W d (Cd G P d)
 |0=>fun f vs vals g σ s A Q a I r nt q=>q.elim
 |d+1=>NI H HD (PA H HD d)
end
end jD
namespace jD.F
open PySem
section
set_option genCtorIdx false
set_option genCtorIdx true in
inductive Th where
 |obj
 |lit (k:Int)
noncomputable def Rl:Th->List D
 |.obj=>[.str iG,.int (.ofNat 0),.int (.ofNat 1),.str Bi]
 |.lit k=>[.str qc,.int (.ofNat 0),.int k]
noncomputable def oQ(t:Th):D:=.tuple (Rl t)
noncomputable def qI:Option Th->D
 |none=>.none
 |some t=>oQ t
noncomputable abbrev tZ:D:=.tuple [.str iG,.int (.ofNat 0),.int (.ofNat 0),.str SQ]
noncomputable abbrev PB:D:=.tuple [.str iG,.int (.ofNat 0),.int (.ofNat 0),.str Bi]
noncomputable def gW:Option Th->D
 |some t=>.tuple [.str xO,oQ t]
 |none=>.tuple [.str iZ,tZ]
noncomputable def cE:Bool->Str
 |false=>qu
 |true=>⟨⟨[101,49]⟩⟩
structure eS where
 pre:Th
 ent:Bool
 aP:Option Th
 args:List (Option Th)
noncomputable def j8(l:Int)(c:eS):D:=.tuple [.str cu,.int l,oQ c.pre,.str (cE c.ent),qI c.aP,.list (c.args.map gW)]
noncomputable def jt(l:Int)(t:Th)(u:Bool):D:=.tuple [.str bE,.int l,oQ t,.bool u]
noncomputable def d4:Bool->D
 |false=>.list []
 |true=>.list [.str s_p]
noncomputable def oR:Option Bool->D
 |none=>.none
 |some false=>.tuple [.str qc,.int (.ofNat 0),.int (.ofNat 0)]
 |some true=>.tuple [.str qc,.int (.ofNat 0),.int (.ofNat 1)]
noncomputable def Vx:Bool->D
 |false=>.none
 |true=>PB
inductive cR where
 |acc (g:Option Bool) (l:Int) (e:Bool) (aP:Option Th) (fm:Bool) (b r:List D)
 |dt (g:Option Bool) (l:Int) (t:Th) (u:Bool) (r:List D)
 |term (g:Option Bool) (r:List D)
noncomputable def qJ(l:Int)(e:Bool)(aP:Option Th)(fm:Bool)(b:List D):D:=.tuple [.str bw,.int l,.str (cE e),qI aP,d4 fm,.list b]
noncomputable def eJ:cR->D
 |.acc g l e aP fm b r=>.tuple [oR g,.str bw,qJ l e aP fm b,.list r]
 |.dt g l t u r=>.tuple [oR g,.str bE,jt l t u,.list r]
 |.term g r=>.tuple [oR g,.str kj,.none,.list r]
noncomputable def rT:Option (List D)->D
 |none=>.none
 |some b=>.list b
inductive SF where
 |call (l:Int) (c:eS)
 |acc (l:Int) (e:Bool) (aP:Option Th) (fm:Bool) (b:List D)
 |rU (l:Int) (c:eS) (b o:List D)
 |pY (l:Int) (c:eS) (b:List D) (l':Int) (t:Th) (u:Bool) (o:List D)
 |sel (l:Int) (a:List cR) (o:Option (List D))
 |block (l:Int) (b:List D)
 |dt (l:Int) (t:Th) (u:Bool)
 |abort (l:Int) (ts:List Th)
 |cK (l:Int) (q:Bool) (aP:Option Th) (u:Bool)
 |ret (l:Int)
 |null (l:Int)
noncomputable def cy:SF->D
 |.call l c=>j8 l c
 |.acc l e aP fm b=>qJ l e aP fm b
 |.rU l c b o=>.tuple [.str bB,.int l,.list [.tuple [.none,.str s_call,j8 l c,.list b]],.list o]
 |.pY l c b l' t u o=>.tuple [.str bB,.int l,.list [.tuple [.none,.str s_call,j8 l c,.list b],.tuple [.none,.str bE,jt l' t u,.list o]],.none]
 |.sel l a o=>.tuple [.str bB,.int l,.list (a.map eJ),rT o]
 |.block l b=>.tuple [.str gp,.int l,.str aI,.list [],.list b,.list []]
 |.dt l t u=>jt l t u
 |.abort l ts=>.tuple [.str d6,.int l,.list (ts.map oQ)]
 |.cK l q aP u=>.tuple [.str cz,.int l,Vx q,.str qu,qI aP,.bool u]
 |.ret l=>.tuple [.str mG,.int l,.none]
 |.null l=>.tuple [.str qq,.int l]
noncomputable def gK(t:Th):Prop:=∀j,t=.lit j->0<=j/\j<9
noncomputable def fw(f:Option Th):Prop:=∀t,f=some t->gK t
noncomputable def wz(l:List (Option Th)):Prop:=l.length<=2/\∀a∈l,fw a
structure gu(c:eS):Prop where
 pre:gK c.pre
 aP:fw c.aP
 args:wz c.args
noncomputable def Ln(l:Int):Prop:=0<=l/\l<=100000
noncomputable abbrev LP:=Bool->List D->Prop
noncomputable def wA(L L0:LP)(sv:Bool):cR->Prop
 |.acc _ l _ aP _ b r=>Ln l/\fw aP/\L true b/\L0 sv r
 |.dt _ _ t _ r=>gK t/\L0 sv r
 |.term _ r=>L0 sv r
noncomputable def PC(L0:LP)(sv:Bool)(o:Option (List D)):Prop:=∀b,o=some b->L0 sv b
noncomputable def Ju(L L0:LP)(sv:Bool):SF->Prop
 |.call l c=>Ln l/\gu c
 |.acc l _ aP _ b=>Ln l/\fw aP/\L true b
 |.rU l c b o=>Ln l/\gu c/\L sv b/\L sv o
 |.pY l c b _ t _ o=>Ln l/\gu c/\L sv b/\gK t/\L0 sv o
 |.sel l a o=>Ln l/\a≠[]/\a.length<=3/\(∀x∈a,wA L L0 sv x)/\PC L0 sv o
 |.block l b=>Ln l/\L sv b
 |.dt l t _=>Ln l/\gK t
 |.abort l ts=>Ln l/\ts.length<=2/\∀t∈ts,gK t
 |.cK l _ aP _=>sv=true/\Ln l/\fw aP
 |.ret l=>sv=true/\Ln l
 |.null l=>Ln l
noncomputable def Xg:LP:=fun _ _=>False
noncomputable def NJ(L L0:LP):LP:=fun sv b=>b.length<=2/\∀x∈b,∃f,Ju L L0 sv f/\x=cy f
noncomputable def NK:LP:=NJ Xg Xg
noncomputable def SL:Nat->LP
 |0=>NK
 |n+1=>NJ (SL n) NK
theorem mQ{α:Type}:∀(l:List α) (i:Nat),aq l i=l[i]?
 |[],_=>rfl
 |_::_,0=>rfl
 |_::l,i+1=>mQ l i
noncomputable def ML(R:ak->St->Prop)(Q:KF):KF:=fun fl ê σ=>match fl with
 |.next=>R ê σ
 |.cont=>Q .cont ê σ
 |.ret v=>Q (.ret v) ê σ
noncomputable def wB(R:ak->St->Prop)(Q:KF):KF:=fun fl ê σ=>match fl with
 |.next=>R ê σ
 |.cont=>R ê σ
 |.ret v=>Q (.ret v) ê σ
theorem Aw{h:Ex}:∀(a b:List T) {ê:ak} {σ:St} {Q:KF},gC h (a++b) ê σ Q=gC h a ê σ (ML (fun ê σ=>gC h b ê σ Q) Q):=by
 intro l0
 induction l0 with
 |nil=>
  intro _ _ _ _;exact rfl
 |cons t a ih=>
  intro b ê σ Q;show h t ê σ _=h t ê σ _
  congr 1
  funext fl ed aF
  rcases fl with _|_
  ·exact ih b
  ·rfl
  ·rfl
theorem bq{h:Ex}{a b:List T}{ê:ak}{σ:St}{Q:KF}(k:∀R:ak->St->Prop,(∀ed aF,gC h b ed aF Q->R ed aF)->gC h a ê σ (ML R Q)):gC h (a++b) ê σ Q:=by
 rw[Aw];exact k _ fun _ _ x=>x
theorem wC{h:Ex}{b:List T}{ê:ak}{σ:St}{Q:KF}{R0:ak->St->Prop}(k:∀R:ak->St->Prop,(∀ed aF,R0 ed aF->R ed aF)->gC h b ê σ (wB R Q)):gC h b ê σ (wB R0 Q):=k _ fun _ _ x=>x
theorem Ax{h:Ex}{t:T}{ê:ak}{σ:St}{Q:KF}:gC h [t] ê σ Q=h t ê σ Q:=by
 show h t ê σ _=h t ê σ Q
 congr 1
 funext fl ed aF
 rcases fl with _|_<;>rfl
theorem Rm{C:Cl}{n:Nat}{sC:List Str}{it:E}{b:List T}{ê:ak}{σ:St}{Q:KF}:ex G C (n+1) (.gQ sC it b) ê σ Q=mA (ev G C n) it ê σ fun xs w ab=>forL (ex G C n) sC b w xs ê ab Q:=rfl
theorem Lf{f:Ev}{it:E}{ê:ak}{σ:St}{Vy:List D->Option (Nat×List D)->St->Prop}(k:∀F:List D->Option (Nat×List D)->St->Prop,(∀xs w σ,Vy xs w σ->F xs w σ)->mA f it ê σ F):mA f it ê σ Vy:=k _ fun _ _ _ x=>x
theorem ju{C:Cl}{sC:List Str}{it:E}{b:List T}{ê:ak}{σ:St}{Q:KF}(k:∀F:List D->Option (Nat×List D)->St->Prop,(∀xs w σ,forL (ex G C 59) sC b w xs ê σ Q->F xs w σ)->mA (ev G C 59) it ê σ F):gC (ex G C 60) [.gQ sC it b] ê σ Q:=by
 refine az (Ax) ?_;refine az (Rm) ?_;exact k _ fun _ _ _ x=>x
theorem dn{h:Ex}{sC:List Str}{body:List T}{x:D}{xs:List D}{ê:ak}{σ:St}{Q:KF}:
 forL h sC body none (x::xs) ê σ Q=bind1 sC x ê fun ed=>gC h body ed σ (wB (fun ê σ=>forL h sC body none xs ê σ Q) Q):=rfl
noncomputable def Run(C:Cl)(f:Nat)(vs:List ag)(σ:St)(Q:KV):Prop:=match Nat.beq (P.par f).length vs.length with
 |true=>gC (ex G C 60) (P.code f) ((P.par f).zip vs) σ (fS Q)
 |false=>False
end
noncomputable def mR(ns:List Int)(sp line left:Int):aL:=.dict [(gT,.d (.list (ns.map .int))),(qt,.d (.int sp)),(ba,.d (.int line)),(eN,.d (.int left))]
noncomputable def dk(ns:List Int)(sp line left:Int)(tl:List (Option aL))(γ:Nat)(τ:List aL):St:=⟨some (mR ns sp line left)::tl,τ,γ⟩
noncomputable def lE(C:Cl):Prop:=∀(ns:List Int) (n:Nat) (sp line left:Int) (tl:List (Option aL)) (γ:Nat) (many:Int) (Q:KV),0<many->sp+1=(n:Int)->n<=100000->ns.length<=70->
 (∀p:Int,0<=p->p<many->Q (.d (.int p)) (dk ns (Int.ofNat n) line left tl γ []))->C aT [.b 0,.d (.int many)] (dk ns sp line left tl γ []) Q
theorem Rn{C:Cl}:lE (Run C):=by
 intro ns n sp line left tl γ many Q hm oT hn hl k;have e:sp+Int.ofNat 1=Int.ofNat n:=oT;have kk:∀x:Int,Q (.d (.int (Int.fmod x many))) (dk ns (Int.ofNat n) line left tl γ []):=fun x=>k _ (Int.fmod_nonneg_of_pos _ hm) (Int.fmod_lt_of_pos _ hm);refine And.intro (by simp) ?_;refine az (e) ?_;refine aj (by rw[List.length_map];unfold ah;omega) ?_
 conv=>whnf
 split
 ·rename_i h;have p9:n<ns.length:=by
   have:=of_decide_eq_true h;rw[List.length_map]at this;have this:(n:Int)<(ns.length:Int):=this;omega
  conv=>whnf
  have hx:idx (ns.map PyData.int) (Int.ofNat n)=some (.int ns[n]):=(mQ _ _).trans (by simp[p9]);refine az (hx) ?_;refine aj (by unfold ah;omega) ?_;refine⟨hm,?_⟩;exact kk _
 ·conv=>whnf
  refine⟨⟨?_,by decide⟩,?_⟩
  ·show n<=ah;unfold ah;omega
  refine⟨⟨by decide,?_,by decide⟩,?_⟩
  ·show(Int.ofNat n*Int.ofNat 5).natAbs<=ah;have:Int.ofNat n*Int.ofNat 5=((n*5:Nat):Int):=rfl;rw[this];unfold ah;omega
  refine⟨hm,?_⟩;exact kk _
noncomputable def mj(C:Cl):Prop:=∀(ns:List Int) (n:Nat) (sp line left:Int) (tl:List (Option aL)) (γ:Nat) (Q:KV),sp+1=(n:Int)->n<=99990->ns.length<=70->
 (∀t:Th,gK t->Q (.d (oQ t)) (dk ns (Int.ofNat (n+1)) line left tl γ []))->C fu [.b 0] (dk ns sp line left tl γ []) Q
theorem two{p:Int}(h0:0<=p)(h:p<2):p=Int.ofNat 0\/p=Int.ofNat 1:=by
 have:p=0\/p=1:=by omega
 exact this
theorem three{p:Int}(h0:0<=p)(h:p<3):p=Int.ofNat 0\/p=Int.ofNat 1\/p=Int.ofNat 2:=by
 have:p=0\/p=1\/p=2:=by omega
 exact this
theorem NL{C:Cl}(hp:lE C):mj (Run C):=by
 intro ns n sp line left tl γ Q oT hn hl k;refine hp ns n sp line left tl γ (Int.ofNat 9) _ (by decide) oT (by omega) hl fun p h0 h9=>?_;refine hp ns (n+1) (Int.ofNat n) line left tl γ (Int.ofNat 2) _ (by decide) rfl (ai hn) hl fun p' Ro yI=>?_;rcases two Ro yI with rfl|rfl
 ·conv=>whnf
  exact k .obj (fun j e=>by rcases e with _|_)
 ·conv=>whnf
  exact k (.lit p) (fun j e=>by rcases e with _|_;exact⟨h0,h9⟩)
noncomputable def Fo(C:Cl):Prop:=∀(ns:List Int) (n:Nat) (sp line left:Int) (tl:List (Option aL)) (γ:Nat) (Q:KV),sp+1=(n:Int)->n<=99980->ns.length<=70->
 (∀f:Option Th,fw f->Q (.d (qI f)) (dk ns (Int.ofNat (n+2)) line left tl γ []))->C kZ [.b 0] (dk ns sp line left tl γ []) Q
theorem Vz{C:Cl}(hp:lE C)(ht:mj C):Fo (Run C):=by
 intro ns n sp line left tl γ Q oT hn hl k;refine ht ns n sp line left tl γ _ oT (by omega) hl fun t ho=>?_;refine hp ns (n+2) (Int.ofNat (n+1)) line left tl γ (Int.ofNat 2) _ (by decide) rfl (ai hn) hl fun p' Ro yI=>?_;rcases two Ro yI with rfl|rfl
 ·conv=>whnf
  exact k none (fun j e=>by rcases e with _|_)
 ·conv=>whnf
  exact k (some t) (fun j e=>by rcases e with _|_;exact ho)
noncomputable def wD(C:Cl):Prop:=∀(ns:List Int) (n:Nat) (sp line left:Int) (tl:List (Option aL)) (γ:Nat) (Q:KV),sp+1=(n:Int)->n<=99980->ns.length<=70->
 (∀g:Option Bool,Q (.d (oR g)) (dk ns (Int.ofNat n) line left tl γ []))->C lS [.b 0] (dk ns sp line left tl γ []) Q
theorem NM{C:Cl}(hp:lE C):wD (Run C):=by
 intro ns n sp line left tl γ Q oT hn hl k;refine hp ns n sp line left tl γ (Int.ofNat 3) _ (by decide) oT (by omega) hl fun p' Ro yI=>?_;rcases three Ro yI with rfl|rfl|rfl
 ·conv=>whnf
  exact k none
 ·conv=>whnf
  exact k (some false)
 ·conv=>whnf
  exact k (some true)
theorem oU{e:Int}(h0:0<=e)(h:e<2):∃b,WW++(PyData.int e).shown=cE b:=by
 rcases two h0 h with rfl|rfl
 ·exact⟨false,by decide+kernel⟩
 ·exact⟨true,by decide+kernel⟩
theorem lV{e:Int}(h0:0<=e)(h:e<2):WW.length+(PyData.int e).shown.length<=ah:=by
 rcases two h0 h with rfl|rfl<;>decide+kernel
noncomputable def GI(C:Cl):Prop:=∀(ns:List Int) (n:Nat) (sp line left:Int) (tl:List (Option aL)) (γ:Nat) (l:Int) (Q:KV),sp+1=(n:Int)->n<=99900->ns.length<=70->
 (∀(c:eS) (n':Nat) (il:Int),gu c->il+1=(n':Int)->n'<=n+20->Q (.d (j8 l c)) (dk ns il line left tl γ []))->C qz [.b 0,.d (.int l)] (dk ns sp line left tl γ []) Q
theorem VA:wz []:=⟨by decide,fun a h=>by rcases h with _|_⟩
theorem PD{a:Option Th}(h:fw a):wz [a]:=⟨by simp,fun x hx=>by rw[List.mem_singleton]at hx;exact hx▸h⟩
theorem GJ{a b:Option Th}(h:fw a)(h':fw b):wz [a,b]:=⟨by simp,fun x hx=>by
 rw[List.mem_cons,List.mem_singleton]at hx;rcases hx with rfl|rfl<;>assumption⟩
theorem rV:fw none:=fun t e=>by rcases e with _|_
theorem rW{t:Th}(h:gK t):fw (some t):=fun _ e=>by rcases e with _|_;exact h
theorem Rp{C:Cl}(hp:lE C)(ht:mj C)(hf:Fo C):GI (Run C):=by
 intro ns n sp line left tl γ l Q oT hn hl k;refine hp ns n sp line left tl γ (Int.ofNat 3) _ (by decide) oT (by omega) hl fun p Ro yI=>?_;rcases three Ro yI with rfl|rfl|rfl
 ·skip
  refine ht ns (n+1) (Int.ofNat n) line left tl γ _ rfl (ai hn) hl fun pre po=>?_;refine hp ns (n+3) (Int.ofNat (n+2)) line left tl γ (Int.ofNat 2) _ (by decide) rfl (ai hn) hl fun e uR m9=>?_;replace m9:e<2:=m9;refine⟨by unfold ah;omega,?_⟩;refine⟨lV uR m9,?_⟩;obtain⟨eb,hb⟩:=oU uR m9;refine az (hb) ?_;refine hf ns (n+4) (Int.ofNat (n+3)) line left tl γ _ rfl (ai hn) hl fun f fo=>?_;exact k ⟨pre,eb,f,[]⟩ (n+7) (Int.ofNat (n+6)) ⟨po,fo,VA⟩ rfl (by omega)
 ·skip
  refine ht ns (n+1) (Int.ofNat n) line left tl γ _ rfl (ai hn) hl fun t o=>?_;refine hp ns (n+3) (Int.ofNat (n+2)) line left tl γ (Int.ofNat 2) _ (by decide) rfl (ai hn) hl fun q h0 h2=>?_;rcases two h0 h2 with rfl|rfl
  ·skip
   refine ht ns (n+4) (Int.ofNat (n+3)) line left tl γ _ rfl (ai hn) hl fun pre po=>?_;refine hp ns (n+6) (Int.ofNat (n+5)) line left tl γ (Int.ofNat 2) _ (by decide) rfl (ai hn) hl fun e uR m9=>?_;replace m9:e<2:=m9;refine⟨by unfold ah;omega,?_⟩;refine⟨lV uR m9,?_⟩;obtain⟨eb,hb⟩:=oU uR m9;refine az (hb) ?_;refine hf ns (n+7) (Int.ofNat (n+6)) line left tl γ _ rfl (ai hn) hl fun f fo=>?_;exact k ⟨pre,eb,f,[some t]⟩ (n+10) (Int.ofNat (n+9)) ⟨po,fo,PD (rW o)⟩ rfl (by omega)
  ·skip
   refine ht ns (n+4) (Int.ofNat (n+3)) line left tl γ _ rfl (ai hn) hl fun pre po=>?_;refine hp ns (n+6) (Int.ofNat (n+5)) line left tl γ (Int.ofNat 2) _ (by decide) rfl (ai hn) hl fun e uR m9=>?_;replace m9:e<2:=m9;refine⟨by unfold ah;omega,?_⟩;refine⟨lV uR m9,?_⟩;obtain⟨eb,hb⟩:=oU uR m9;refine az (hb) ?_;refine hf ns (n+7) (Int.ofNat (n+6)) line left tl γ _ rfl (ai hn) hl fun f fo=>?_;exact k ⟨pre,eb,f,[none]⟩ (n+10) (Int.ofNat (n+9)) ⟨po,fo,PD rV⟩ rfl (by omega)
 ·skip
  refine ht ns (n+1) (Int.ofNat n) line left tl γ _ rfl (ai hn) hl fun t o=>?_;refine hp ns (n+3) (Int.ofNat (n+2)) line left tl γ (Int.ofNat 2) _ (by decide) rfl (ai hn) hl fun q h0 h2=>?_;rcases two h0 h2 with rfl|rfl
  ·skip
   refine ht ns (n+4) (Int.ofNat (n+3)) line left tl γ _ rfl (ai hn) hl fun u uo=>?_;refine hp ns (n+6) (Int.ofNat (n+5)) line left tl γ (Int.ofNat 2) _ (by decide) rfl (ai hn) hl fun q h0 h2=>?_;rcases two h0 h2 with rfl|rfl
   ·skip
    refine ht ns (n+7) (Int.ofNat (n+6)) line left tl γ _ rfl (ai hn) hl fun pre po=>?_;refine hp ns (n+9) (Int.ofNat (n+8)) line left tl γ (Int.ofNat 2) _ (by decide) rfl (ai hn) hl fun e uR m9=>?_;replace m9:e<2:=m9;refine⟨by unfold ah;omega,?_⟩;refine⟨lV uR m9,?_⟩;obtain⟨eb,hb⟩:=oU uR m9;refine az (hb) ?_;refine hf ns (n+10) (Int.ofNat (n+9)) line left tl γ _ rfl (ai hn) hl fun f fo=>?_;exact k ⟨pre,eb,f,[some t,some u]⟩ (n+13) (Int.ofNat (n+12)) ⟨po,fo,GJ (rW o) (rW uo)⟩ rfl (by omega)
   ·skip
    refine ht ns (n+7) (Int.ofNat (n+6)) line left tl γ _ rfl (ai hn) hl fun pre po=>?_;refine hp ns (n+9) (Int.ofNat (n+8)) line left tl γ (Int.ofNat 2) _ (by decide) rfl (ai hn) hl fun e uR m9=>?_;replace m9:e<2:=m9;refine⟨by unfold ah;omega,?_⟩;refine⟨lV uR m9,?_⟩;obtain⟨eb,hb⟩:=oU uR m9;refine az (hb) ?_;refine hf ns (n+10) (Int.ofNat (n+9)) line left tl γ _ rfl (ai hn) hl fun f fo=>?_;exact k ⟨pre,eb,f,[some t,none]⟩ (n+13) (Int.ofNat (n+12)) ⟨po,fo,GJ (rW o) (rV)⟩ rfl (by omega)
  ·skip
   refine ht ns (n+4) (Int.ofNat (n+3)) line left tl γ _ rfl (by omega) hl fun u uo=>?_;refine hp ns (n+6) (Int.ofNat (n+5)) line left tl γ (Int.ofNat 2) _ (by decide) rfl (by omega) hl fun q h0 h2=>?_;rcases two h0 h2 with rfl|rfl
   ·skip
    refine ht ns (n+7) (Int.ofNat (n+6)) line left tl γ _ rfl (ai hn) hl fun pre po=>?_;refine hp ns (n+9) (Int.ofNat (n+8)) line left tl γ (Int.ofNat 2) _ (by decide) rfl (ai hn) hl fun e uR m9=>?_;replace m9:e<2:=m9;refine⟨by unfold ah;omega,?_⟩;refine⟨lV uR m9,?_⟩;obtain⟨eb,hb⟩:=oU uR m9;refine az (hb) ?_;refine hf ns (n+10) (Int.ofNat (n+9)) line left tl γ _ rfl (ai hn) hl fun f fo=>?_;exact k ⟨pre,eb,f,[none,some u]⟩ (n+13) (Int.ofNat (n+12)) ⟨po,fo,GJ (rV) (rW uo)⟩ rfl (by omega)
   ·skip
    refine ht ns (n+7) (Int.ofNat (n+6)) line left tl γ _ rfl (by omega) hl fun pre po=>?_;refine hp ns (n+9) (Int.ofNat (n+8)) line left tl γ (Int.ofNat 2) _ (by decide) rfl (by omega) hl fun e uR m9=>?_;replace m9:e<2:=m9;refine⟨by unfold ah;omega,?_⟩;refine⟨lV uR m9,?_⟩;obtain⟨eb,hb⟩:=oU uR m9;refine az (hb) ?_;refine hf ns (n+10) (Int.ofNat (n+9)) line left tl γ _ rfl (by omega) hl fun f fo=>?_;exact k ⟨pre,eb,f,[none,none]⟩ (n+13) (Int.ofNat (n+12)) ⟨po,fo,GJ (rV) (rV)⟩ rfl (by omega)
noncomputable def oV(L:LP)(S:Nat)(z:Int)(C:Cl):Prop:=∀(ns:List Int) (n:Nat) (sp line left:Int) (tl:List (Option aL)) (γ:Nat) (sv:Bool) (Q:KV),sp+1=(n:Int)->n+S<=80000->ns.length<=70->0<=line->line+S<=90000->
 (∀(b:List D) (n':Nat) (il aY bU:Int) (τ:List aL),L sv b->il+1=(n':Int)->n'<=n+S->line<=aY->aY<=line+S->Q (.d (.list b)) (dk ns il aY bU tl γ τ))->C dO [.b 0,.d (.int z),.d (.bool sv)] (dk ns sp line left tl γ []) Q
noncomputable def pG(L:LP)(S:Nat)(z:Int)(C:Cl):Prop:=∀(ns:List Int) (n:Nat) (sp line left l:Int) (tl:List (Option aL)) (γ:Nat) (Q:KV),sp+1=(n:Int)->n+S+10<=80000->ns.length<=70->0<=line->line+S<=90000->
 (∀(e:Bool) (aP:Option Th) (fm:Bool) (b:List D) (n':Nat) (il aY bU:Int),fw aP->L true b->il+1=(n':Int)->n'<=n+S+10->line<=aY->aY<=line+S->Q (.d (qJ l e aP fm b)) (dk ns il aY bU tl γ []))->C k5 [.b 0,.d (.int l),.d (.int z)] (dk ns sp line left tl γ []) Q
theorem Lg{C:Cl}{L:LP}{S:Nat}{z:Int}(hp:lE C)(hf:Fo C)(hs:oV L S (z-1) C):pG L S z (Run C):=by
 intro ns n sp line left l tl γ Q oT hn hl h0 hS k;refine hp ns n sp line left tl γ (Int.ofNat 2) _ (by decide) oT (ai hn) hl fun e uR m9=>?_;replace m9:e<2:=m9;refine⟨by unfold ah;omega,?_⟩;refine⟨lV uR m9,?_⟩;obtain⟨eb,hb⟩:=oU uR m9;refine az (hb) ?_;refine hf ns (n+1) (Int.ofNat n) line left tl γ _ rfl (ai hn) hl fun f fo=>?_;refine hp ns (n+4) (Int.ofNat (n+3)) line left tl γ (Int.ofNat 2) _ (by decide) rfl (ai hn) hl fun m h0m h2m=>?_;rcases two h0m h2m with rfl|rfl
 ·conv=>whnf
  refine⟨by decide,?_⟩;refine⟨by decide,?_⟩;refine hs ns (n+5) (Int.ofNat (n+4)) line left tl γ true _ rfl (ai hn) hl h0 hS fun b n' il aY bU τ hb pT hle h1 h2=>?_;exact k eb f false b n' il aY bU fo hb pT (ai hle) h1 h2
 ·conv=>whnf
  refine⟨by decide,?_⟩;refine⟨by decide,?_⟩;refine hs ns (n+5) (Int.ofNat (n+4)) line left tl γ true _ rfl (ai hn) hl h0 hS fun b n' il aY bU τ hb pT hle h1 h2=>?_;exact k eb f true b n' il aY bU fo hb pT (ai hle) h1 h2
noncomputable def Rq(L L0:LP)(S:Nat)(z:Int)(C:Cl):Prop:=∀(ns:List Int) (n:Nat) (sp line left l:Int) (tl:List (Option aL)) (γ:Nat) (sv:Bool) (Q:KV),sp+1=(n:Int)->n+3*S+120<=80000->ns.length<=70->0<=line->line+3*S+40<=90000->Ln l->
 (∀(f:SF) (n':Nat) (il aY bU:Int) (τ:List aL),Ju L L0 sv f->il+1=(n':Int)->n'<=n+3*S+120->line<=aY->aY<=line+3*S+40->Q (.d (cy f)) (dk ns il aY bU tl γ τ))->C jl [.b 0,.d (.int l),.d (.int z),.d (.bool sv)] (dk ns sp line left tl γ []) Q
noncomputable def qK(l z:Int)(sv:Bool)(rest:ak):ak:=(ay,.b 0)::(ba,.d (.int l))::(dX,.d (.int z))::(bg,.d (.bool sv))::(cf,.t 0)::rest
noncomputable def uS(rest:ak):Prop:=rest=[]\/∃a b c,rest=[(df,.d a),(cJ,.d b),(bI,.d c)]
noncomputable def pH:List T:=[.asg (.x cJ) (.sub (.lst .fz [(.c (.str bw)),(.c (.str bw)),(.c (.str bE)),(.c (.str kj))]) (.call aT [(.var ay),(.c (.int (.ofNat 4)))])),.asg (.x bI) (.c .none),.fM (.cmp .eq (.var cJ) (.c (.str bw))) [.asg (.x bI) (.call k5 [(.var ay),(.var ba),(.var dX)])] [.fM (.cmp .eq (.var cJ) (.c (.str bE))) [.asg (.x bI) (.tup [(.c (.str bE)),(.var ba),(.call fu [(.var ay)]),(.cmp .eq (.call aT [(.var ay),(.c (.int (.ofNat 2)))]) (.c (.int (.ofNat 1))))])] []],.expr (.append (.var cf) (.tup [(.call lS [(.var ay)]),(.var cJ),(.var bI),(.call dO [(.var ay),(.c (.int (.ofNat 0))),(.var bg)])]))]
theorem four{p:Int}(h0:0<=p)(h:p<4):p=Int.ofNat 0\/p=Int.ofNat 1\/p=Int.ofNat 2\/p=Int.ofNat 3:=by
 have:p=0\/p=1\/p=2\/p=3:=by omega
 exact this
theorem Lh{C:Cl}{L L0:LP}{S:Nat}{z:Int}(hp:lE C)(ht:mj C)(hg:wD C)(ha:pG L S z C)(Rr:oV L0 10 0 C)
  {ns:List Int} {n:Nat} {sp line left l:Int} {tl:List (Option aL)} {γ:Nat} {sv:Bool} {rest:ak} {r:List D} {x:D} {R:ak->St->Prop} {Q:KF} (hr:uS rest) (xI:r.length<=100)
  (oT:sp+1=(n:Int)) (hn:n+S+25<=80000) (hl:ns.length<=70) (h0:0<=line) (hS:line+S+10<=90000) (pI:Ln l)
  (k:∀(a:cR) (n':Nat) (il aY bU:Int) (aG:ak),wA L L0 sv a->uS aG->il+1=(n':Int)->n'<=n+S+25->line<=aY->aY<=line+S+10->R (qK l z sv aG) (dk ns il aY bU tl γ [.list [] (eJ a::r)])):
  gC (ex G C 59) pH (jb df (.d x) (qK l z sv rest)) (dk ns sp line left tl γ [.list [] r]) (wB R Q):=by
 have fin:∀(kind data:D) (m:Nat) (Ay qh yS:Int),(Ay+1=(m:Int))->m<=n+S+12->line<=qh->qh<=line+S->(∀g b,L0 sv b->∃a,wA L L0 sv a/\eJ a=.tuple [oR g,kind,data,.list b])->
   gC (ex G C 59) [.expr (.append (.var cf) (.tup [(.call lS [(.var ay)]),(.var cJ),(.var bI),(.call dO [(.var ay),(.c (.int (.ofNat 0))),(.var bg)])]))]
    (qK l z sv [(df,.d x),(cJ,.d kind),(bI,.d data)]) (dk ns Ay qh yS tl γ [.list [] r]) (wB R Q):=by
  intro kind data m Ay qh yS Zh hm yT DK hk;refine hg ns m Ay qh yS tl γ _ Zh (aZ hn hm) hl fun g=>?_;refine Rr ns (m+1) (Int.ofNat m) qh yS tl γ sv _ rfl (aZ hn hm) hl (zc h0 yT) (zc hS DK) fun b n' il aY bU τ hb pT hle h1 h2=>?_;refine⟨by show 0+r.length<ah;unfold ah;exact ai xI,?_⟩;refine bc fun bf=>?_;obtain⟨a,ao,ae⟩:=hk g b hb;refine bf ?_;have:=k a n' il aY bU [(df,.d x),(cJ,.d kind),(bI,.d data)] ao (.inr ⟨_,_,_,rfl⟩) pT (aZ hm hle) (zc yT h1) (zc DK h2);rw[ae]at this;exact this
 have pre:∀R':ak->St->Prop,(∀(kind data:D) (m:Nat) (Ay qh yS:Int),(Ay+1=(m:Int))->m<=n+S+12->line<=qh->qh<=line+S->(∀g b,L0 sv b->∃a,wA L L0 sv a/\eJ a=.tuple [oR g,kind,data,.list b])->
   R' (qK l z sv [(df,.d x),(cJ,.d kind),(bI,.d data)]) (dk ns Ay qh yS tl γ [.list [] r]))->
   gC (ex G C 59) (pH.take 3) (jb df (.d x) (qK l z sv rest)) (dk ns sp line left tl γ [.list [] r]) (ML R' (wB R Q)):=by
  intro R' kk;rcases hr with rfl|⟨a0,b0,c0,rfl⟩
  all_goals
   refine hp ns n sp line left tl γ (Int.ofNat 4) _ (by decide) oT (ai hn) hl fun p NO h4p=>?_;rcases four NO h4p with rfl|rfl|rfl|rfl
   ·conv=>whnf
    refine ha ns (n+1) (Int.ofNat n) line left l tl γ _ rfl (ai hn) hl h0 (xD hS) fun e aP fm b n' il aY bU fo hb pT hle h1 h2=>?_;exact kk (.str bw) (qJ l e aP fm b) n' il aY bU pT (ai hle) (by omega) (by omega) fun g r hr=>⟨.acc g l e aP fm b r,⟨pI,fo,hb,hr⟩,rfl⟩
   ·conv=>whnf
    refine ha ns (n+1) (Int.ofNat n) line left l tl γ _ rfl (ai hn) hl h0 (xD hS) fun e aP fm b n' il aY bU fo hb pT hle h1 h2=>?_;exact kk (.str bw) (qJ l e aP fm b) n' il aY bU pT (ai hle) (by omega) (by omega) fun g r hr=>⟨.acc g l e aP fm b r,⟨pI,fo,hb,hr⟩,rfl⟩
   ·conv=>whnf
    refine ht ns (n+1) (Int.ofNat n) line left tl γ _ rfl (ai hn) hl fun t to=>?_;refine hp ns (n+3) (Int.ofNat (n+2)) line left tl γ (Int.ofNat 2) _ (by decide) rfl (ai hn) hl fun u NP NQ=>?_;exact kk (.str bE) (jt l t (decide (u=Int.ofNat 1))) (n+4) (Int.ofNat (n+3)) line left rfl (by omega) (by omega) (xD (DS (S))) fun g r hr=>⟨.dt g l t (decide (u=Int.ofNat 1)) r,⟨to,hr⟩,rfl⟩
   ·exact kk (.str kj) .none (n+1) (Int.ofNat n) line left rfl (by omega) (by omega) (xD (DS (S))) fun g r hr=>⟨.term g r,hr,rfl⟩
 rw[show pH=pH.take 3++pH.drop 3 from rfl,Aw];exact pre _ fin
theorem Li{C:Cl}{L L0:LP}{S:Nat}{z:Int}(hp:lE C)(ht:mj C)(hg:wD C)(ha:pG L S z C)(Rr:oV L0 10 0 C)
  {ns:List Int} {l:Int} {tl:List (Option aL)} {γ:Nat} {sv:Bool} {Q:KF} (hl:ns.length<=70) (pI:Ln l):∀(xs:List D) (n:Nat) (sp line left:Int) (rest:ak) (acc:List cR),
  uS rest->acc.length+xs.length<=3->(∀a∈acc,wA L L0 sv a)->sp+1=(n:Int)->n+xs.length*(S+25)<=80000->0<=line->line+xs.length*((S:Int)+10)<=90000->
  (∀(wF:List cR) (n':Nat) (il aY bU:Int) (aG:ak),wF.length=acc.length+xs.length->(∀a∈wF,wA L L0 sv a)->uS aG->il+1=(n':Int)->n'<=n+xs.length*(S+25)->line<=aY->aY<=line+xs.length*((S:Int)+10)->Q .next (qK l z sv aG) (dk ns il aY bU tl γ [.list [] (wF.map eJ)]))->
  forL (ex G C 59) [df] pH none xs (qK l z sv rest) (dk ns sp line left tl γ [.list [] (acc.map eJ)]) Q:=by
 intro l0
 induction l0 with
 |nil=>
  intro n sp line left rest acc hr h3 wx oT hn h0 hS k;exact k acc n sp line left rest rfl wx hr oT (by omega) (by omega) (by simp only[List.length_nil,Int.natCast_zero,Int.zero_mul];omega)
 |cons x xs ih=>
  intro n sp line left rest acc hr h3 wx oT hn h0 hS k;rw[List.length_cons]at h3;have e1:(x::xs).length*(S+25)=xs.length*(S+25)+(S+25):=Nat.succ_mul _ _;have e2:(((x::xs).length:Nat):Int)*((S:Int)+10)=(xs.length:Int)*((S:Int)+10)+((S:Int)+10):=by
   rw[List.length_cons,Int.natCast_succ,Int.add_mul,Int.one_mul]
  have p1:0<=(xs.length:Int)*((S:Int)+10):=Int.mul_nonneg (xD (DS (xs.length))) (xD (DS (S)));rw[e1]at hn k;rw[e2]at hS k;refine az (dn) ?_;refine Lh hp ht hg ha Rr hr (by rw[List.length_map];exact ai h3) oT (ai hn) hl h0 (zc hS p1) pI fun a n' il aY bU aG ao je Rt pT yT DK=>?_;refine ih n' il aY bU aG (a::acc) je (by rw[List.length_cons];exact ai h3) (fun b hb=>?_) Rt (aZ hn pT) (zc h0 yT) (zc hS DK) fun wF n2 GK iK jv gX q1 q2 q3 q4 q5 q6 q7=>?_
  ·rcases List.mem_cons.mp hb with rfl|hb
   ·exact ao
   ·exact wx b hb
  ·exact k wF n2 GK iK jv gX (by rw[q1,List.length_cons,List.length_cons];omega) q2 q3 q4 (aZ pT q5) (zc yT q6) (zc DK q7)
theorem VB{C:Cl}{L L0:LP}{S:Nat}{z:Int}(acP:10<=S)(hp:lE C)(ht:mj C)(hg:wD C)(hc:GI C)(ha:pG L S z C)(hs:oV L S (z-1) C)(Rr:oV L0 10 0 C):Rq L L0 S z (Run C):=by
 intro ns n sp line left l tl γ sv Q oT hn hl h0 hS pI k;have rest:(fun ê σ=>gC (ex G C 60) ((P.code jl).drop 1) ê σ (fS Q)) [(ay,.b 0),(ba,.d (.int l)),(dX,.d (.int z)),(bg,.d (.bool sv))] (dk ns (Int.ofNat n) line left tl γ []):=by
  refine hp ns (n+1) (Int.ofNat n) line left tl γ (Int.ofNat 3) _ (by decide) rfl (ai hn) hl fun q h0q h3q=>?_;obtain⟨q,rfl⟩:=Int.eq_ofNat_of_zero_le h0q;have Zi:q<3:=by have:(q:Int)<3:=h3q;omega
  have hq:1+q<=3:=by exact ai Zi
  refine aj (by unfold ah;omega) ?_;have xI:(eM (1+q)).length=1+q:=by unfold eM;rw[List.length_map,List.length_range]
  have b1:(eM (1+q)).length*(S+25)<=3*(S+25):=Nat.mul_le_mul_right _ (aZ hq (iq xI));have b2:((eM (1+q)).length:Int)*((S:Int)+10)<=3*((S:Int)+10):=Int.mul_le_mul_of_nonneg_right (by omega) (xD (DS (S)));refine Li hp ht hg ha Rr hl pI (eM (1+q)) (n+2) (Int.ofNat (n+1)) line left [] [] (.inl rfl) (by rw[xI];simp only[List.length_nil];exact ai Zi) (fun a ha=>by rcases ha with _|_) rfl (aZ hn b1) h0 (zc hS b2) fun acc n' il aY bU aG q1 q2 q3 q4 q5 q6 q7=>?_;have qQ:acc.reverse≠[]:=by
   intro e;have z1:=congrArg List.length e;rw[List.length_reverse,q1,xI]at z1;have z2:0+(1+q)=0:=z1;omega
  have hle:acc.reverse.length<=3:=by
   refine az (List.length_reverse) ?_;refine az (q1) ?_;refine az (xI) ?_;show 0+(1+q)<=3;exact ai Zi
  have Zj:∀a∈acc.reverse,wA L L0 sv a:=fun a h=>q2 a (List.mem_reverse.mp h);rw[xI]at q1;have fin:∀(o:Option (List D)) (n2:Nat) (GK iK jv:Int) (τ:List aL),PC L0 sv o->GK+1=(n2:Int)->n2<=n'+20->aY<=iK->iK<=aY+10->
    Q (.d (.tuple [.str bB,.int l,.list (acc.map eJ).reverse,rT o])) (dk ns GK iK jv tl γ τ):=by
   intro o n2 GK iK jv τ oo w1 w2 w3 w4;have:=k (.sel l acc.reverse o) n2 GK iK jv τ ⟨pI,qQ,hle,Zj,oo⟩ w1 (jI b1 q5 w2) (by omega) (WM b2 q7 w4);rw[show cy (.sel l acc.reverse o)=.tuple [.str bB,.int l,.list (acc.reverse.map eJ),rT o]from rfl,List.map_reverse]at this;exact this
  rcases q3 with rfl|⟨a0,b0,c0,rfl⟩
  all_goals
   refine Rr ns n' il aY bU tl γ sv _ q4 (jI hn b1 q5) hl (by omega) (WM hS b2 q7) fun b n2 GK iK jv τ hb w1 w2 w3 w4=>?_;refine hp ns n2 GK iK jv tl γ (Int.ofNat 2) _ (by decide) w1 (uK hn b1 q5 w2) hl fun u NP NQ=>?_;rcases two NP NQ with rfl|rfl
   ·conv=>whnf
    exact fin none (n2+1) (Int.ofNat n2) iK jv _ (fun b e=>by rcases e with _|_) rfl (ai w2) (by omega) (xD w4)
   ·conv=>whnf
    exact fin (some b) (n2+1) (Int.ofNat n2) iK jv _ (fun b e=>by rcases e with _|_;exact hb) rfl (ai w2) (by omega) (xD w4)
 show gC (ex G C 60) ((P.code jl).take 1++(P.code jl).drop 1) [(ay,.b 0),(ba,.d (.int l)),(dX,.d (.int z)),(bg,.d (.bool sv))] (dk ns sp line left tl γ []) (fS Q);refine bq fun R hR=>?_;refine hp ns n sp line left tl γ (Int.ofNat 3) _ (by decide) oT (ai hn) hl fun p NO Zk=>?_;rcases three NO Zk with rfl|rfl|rfl
 ·conv=>whnf
  refine hc ns (n+1) (Int.ofNat n) line left tl γ l _ rfl (ai hn) hl fun c n1 Ay co w1 w2=>?_;refine hs ns n1 Ay line left tl γ sv _ w1 (aZ hn w2) hl h0 (by omega) fun b n2 GK iK jv τ hb v1 v2 v3 v4=>?_;refine hp ns n2 GK iK jv tl γ (Int.ofNat 2) _ (by decide) v1 (jI hn w2 v2) hl fun u NP NQ=>?_;rcases two NP NQ with rfl|rfl
  ·conv=>whnf
   refine hs ns (n2+1) (Int.ofNat n2) iK jv tl γ sv _ rfl (jI hn w2 v2) hl (by omega) (WM hS v4 (DS (S))) fun o n3 Zl Lj Lk τ ho x1 x2 x3 x4=>?_;exact k (.rU l c b o) n3 Zl Lj Lk _ ⟨pI,co,hb,ho⟩ x1 (jI w2 v2 x2) (by omega) (WM v4 x4 (DS (S)))
  ·conv=>whnf
   refine ht ns (n2+1) (Int.ofNat n2) iK jv tl γ _ rfl (jI hn w2 v2) hl fun t to=>?_;refine hp ns (n2+3) (Int.ofNat (n2+2)) iK jv tl γ (Int.ofNat 2) _ (by decide) rfl (jI hn w2 v2) hl fun e uR m9=>?_;refine Rr ns (n2+4) (Int.ofNat (n2+3)) iK jv tl γ sv _ rfl (jI hn w2 v2) hl (by omega) (by omega) fun o n3 Zl Lj Lk τ ho x1 x2 x3 x4=>?_;exact k (.pY l c b l t (decide (e=Int.ofNat 1)) o) n3 Zl Lj Lk _ ⟨pI,co,hb,to,ho⟩ x1 (jI w2 v2 x2) (by omega) (by omega)
 ·conv=>whnf
  exact hR _ _ rest
 ·conv=>whnf
  exact hR _ _ rest
noncomputable def NR(L L0:LP)(S:Nat)(z:Int)(C:Cl):Prop:=∀(ns:List Int) (n:Nat) (sp line left l:Int) (tl:List (Option aL)) (γ:Nat) (sv:Bool) (Q:KV),sp+1=(n:Int)->n+3*S+122<=80000->ns.length<=70->0<=line->line+3*S+40<=90000->Ln l->
 (∀(f:SF) (n':Nat) (il aY bU:Int) (τ:List aL),Ju L L0 sv f->il+1=(n':Int)->n'<=n+3*S+122->line<=aY->aY<=line+3*S+40->Q (.d (cy f)) (dk ns il aY bU tl γ τ))->C gF [.b 0,.d (.int l),.d (.int z),.d (.bool sv)] (dk ns sp line left tl γ []) Q
noncomputable def GL(L L0:LP)(z:Int)(C:Cl):Prop:=∀(ns:List Int) (n:Nat) (sp line left l:Int) (tl:List (Option aL)) (γ:Nat) (sv:Bool) (Q:KV),sp+1=(n:Int)->n+10<=80000->ns.length<=70->Ln l->
 (∀(f:SF) (n':Nat) (il:Int) (τ:List aL),Ju L L0 sv f->il+1=(n':Int)->n'<=n+9->Q (.d (cy f)) (dk ns il line left tl γ τ))->C gF [.b 0,.d (.int l),.d (.int z),.d (.bool sv)] (dk ns sp line left tl γ []) Q
theorem Zm{p:Int}(h0:0<=p)(h:p<5):p=Int.ofNat 0\/p=Int.ofNat 1\/p=Int.ofNat 2\/p=Int.ofNat 3\/p=Int.ofNat 4:=by
 have:p=0\/p=1\/p=2\/p=3\/p=4:=by omega
 exact this
theorem nine{p:Int}(h0:0<=p)(h:p<9):p=Int.ofNat 0\/p=Int.ofNat 1\/p=Int.ofNat 2\/p=Int.ofNat 3\/p=Int.ofNat 4\/p=Int.ofNat 5\/p=Int.ofNat 6\/p=Int.ofNat 7\/p=Int.ofNat 8:=by
 have:p=0\/p=1\/p=2\/p=3\/p=4\/p=5\/p=6\/p=7\/p=8:=by omega
 exact this
theorem Zn{t:Th}(h:gK t):∀x∈[t],gK x:=fun x hx=>by rw[List.mem_singleton]at hx;exact hx▸h
theorem Zo{t u:Th}(h:gK t)(h':gK u):∀x∈[t,u],gK x:=fun x hx=>by
 rw[List.mem_cons,List.mem_singleton]at hx;rcases hx with rfl|rfl<;>assumption
theorem wG{C:Cl}{L L0:LP}{z:Int}(hp:lE C)(ht:mj C)(hf:Fo C){w:Int}{ns:List Int}{n:Nat}{sp line left l:Int}{tl:List (Option aL)}{γ:Nat}{sv:Bool}{Q:KV}(oT:sp+1=(n:Int))(hn:n+9<=80000)(hl:ns.length<=70)(pI:Ln l)
  (k:∀(f:SF) (n':Nat) (il:Int) (τ:List aL),Ju L L0 sv f->il+1=(n':Int)->n'<=n+9->Q (.d (cy f)) (dk ns il line left tl γ τ)):
  gC (ex G C 60) ((P.code gF).drop 5) [(ay,.b 0),(ba,.d (.int l)),(dX,.d (.int z)),(bg,.d (.bool sv)),(iu,.d (.int w))] (dk ns sp line left tl γ []) (fS Q):=by
 refine hp ns n sp line left tl γ (Int.ofNat 5) _ (by decide) oT (ai hn) hl fun p NO h5p=>?_;rcases Zm NO h5p with rfl|rfl|rfl|rfl|rfl
 ·conv=>whnf
  refine ht ns (n+1) (Int.ofNat n) line left tl γ _ rfl (ai hn) hl fun t to=>?_;refine hp ns (n+3) (Int.ofNat (n+2)) line left tl γ (Int.ofNat 2) _ (by decide) rfl (ai hn) hl fun u NP NQ=>?_;exact k (.dt l t (decide (u=Int.ofNat 1))) (n+4) (Int.ofNat (n+3)) _ ⟨pI,to⟩ rfl (by omega)
 ·conv=>whnf
  refine hp ns (n+1) (Int.ofNat n) line left tl γ (Int.ofNat 2) _ (by decide) rfl (ai hn) hl fun u NP NQ=>?_;rcases two NP NQ with rfl|rfl
  ·conv=>whnf
   refine ht ns (n+2) (Int.ofNat (n+1)) line left tl γ _ rfl (ai hn) hl fun t to=>?_;exact k (.abort l [t]) (n+4) (Int.ofNat (n+3)) _ ⟨pI,by simp,Zn to⟩ rfl (by omega)
  ·conv=>whnf
   refine ht ns (n+2) (Int.ofNat (n+1)) line left tl γ _ rfl (ai hn) hl fun t to=>?_;refine ht ns (n+4) (Int.ofNat (n+3)) line left tl γ _ rfl (ai hn) hl fun t' to'=>?_;exact k (.abort l [t,t']) (n+6) (Int.ofNat (n+5)) _ ⟨pI,by simp,Zo to to'⟩ rfl (by omega)
 ·induction sv using Bool.casesOn with
  |false=>
   exact k (.null l) (n+1) (Int.ofNat n) _ pI rfl (by omega)
  |true=>
   refine hp ns (n+1) (Int.ofNat n) line left tl γ (Int.ofNat 2) _ (by decide) rfl (ai hn) hl fun u NP NQ=>?_;rcases two NP NQ with rfl|rfl
   all_goals
    refine hf ns (n+2) (Int.ofNat (n+1)) line left tl γ _ rfl (ai hn) hl fun f fo=>?_;refine hp ns (n+5) (Int.ofNat (n+4)) line left tl γ (Int.ofNat 2) _ (by decide) rfl (ai hn) hl fun v h0v h2v=>?_
   ·exact k (.cK l false f (decide (v=Int.ofNat 1))) (n+6) (Int.ofNat (n+5)) _ ⟨rfl,pI,fo⟩ rfl (by omega)
   ·exact k (.cK l true f (decide (v=Int.ofNat 1))) (n+6) (Int.ofNat (n+5)) _ ⟨rfl,pI,fo⟩ rfl (by omega)
 ·induction sv using Bool.casesOn with
  |false=>
   exact k (.null l) (n+1) (Int.ofNat n) _ pI rfl (by omega)
  |true=>
   exact k (.ret l) (n+1) (Int.ofNat n) _ ⟨rfl,pI⟩ rfl (by omega)
 ·conv=>whnf
  exact k (.null l) (n+1) (Int.ofNat n) _ pI rfl (by omega)
theorem Ru{C:Cl}{L L0:LP}{z:Int}(hz:z=0)(hp:lE C)(ht:mj C)(hf:Fo C):GL L L0 z (Run C):=by
 intro ns n sp line left l tl γ sv Q oT hn hl pI k;subst hz;show gC (ex G C 60) ((P.code gF).take 5++(P.code gF).drop 5) [(ay,.b 0),(ba,.d (.int l)),(dX,.d (.int 0)),(bg,.d (.bool sv))] (dk ns sp line left tl γ []) (fS Q);refine bq fun R hR=>?_;have:=wG (L:=L) (L0:=L0) (z:=0) hp ht hf (w:=Int.ofNat 6) (sv:=sv) oT (ai hn) hl pI k;exact hR _ _ this
theorem VC{C:Cl}{L L0:LP}{S:Nat}{z:Int}(hp:lE C)(ht:mj C)(hf:Fo C)(hc:GI C)(ha:pG L S z C)(hse:Rq L L0 S z C)(hs:oV L S (z-1) C):NR L L0 S z (Run C):=by
 intro ns n sp line left l tl γ sv Q oT hn hl h0 hS pI k;show gC (ex G C 60) ((P.code gF).take 5++(P.code gF).drop 5) [(ay,.b 0),(ba,.d (.int l)),(dX,.d (.int z)),(bg,.d (.bool sv))] (dk ns sp line left tl γ []) (fS Q);refine bq fun R hR=>?_;have six:=fun(w:Int)=>hR _ _ (wG (L:=L) (L0:=L0) (z:=z) hp ht hf (w:=w) (sv:=sv) oT (ai hn) hl pI fun f n' il τ q1 q2 q3=>k f n' il line left τ q1 q2 (ai q3) (Int.le_refl _) (by omega));have Zp:=fun(w:Int)=>hR _ _ (wG (L:=L) (L0:=L0) (z:=z) hp ht hf (w:=w) (sv:=sv) (sp:=Int.ofNat n) (n:=n+1) rfl (ai hn) hl pI fun f n' il τ q1 q2 q3=>k f n' il line left τ q1 q2 (ai q3) (Int.le_refl _) (by omega))
 conv=>whnf
 split
 ·conv=>whnf
  split
  ·conv=>whnf
   refine hp ns n sp line left tl γ (Int.ofNat 9) _ (by decide) oT (ai hn) hl fun p NO h9p=>?_;rcases nine NO h9p with rfl|rfl|rfl|rfl|rfl|rfl|rfl|rfl|rfl
   iterate 2
    ·conv=>whnf
     refine hc ns (n+1) (Int.ofNat n) line left tl γ l _ rfl (ai hn) hl fun c n1 Ay co w1 w2=>?_;exact k (.call l c) n1 Ay line left _ ⟨pI,co⟩ w1 (ai w2) (by omega) (by omega)
   ·conv=>whnf
    refine ha ns (n+1) (Int.ofNat n) line left l tl γ _ rfl (ai hn) hl h0 (by omega) fun e aP fm b n' il aY bU fo hb pT hle h1 h2=>?_;exact k (.acc l e aP fm b) n' il aY bU _ ⟨pI,fo,hb⟩ pT (ai hle) (by omega) (by omega)
   iterate 2
    ·conv=>whnf
     refine hse ns (n+1) (Int.ofNat n) line left l tl γ sv _ rfl (ai hn) hl h0 (by omega) pI fun f n' il aY bU τ fo pT hle h1 h2=>?_;rcases f with _|_<;>exact k _ n' il aY bU _ fo pT (ai hle) (by omega) (by omega)
   ·conv=>whnf
    refine hs ns (n+1) (Int.ofNat n) line left tl γ sv _ rfl (ai hn) hl h0 (by omega) fun b n2 GK iK jv τ hb v1 v2 v3 v4=>?_;exact k (.block l b) n2 GK iK jv _ ⟨pI,hb⟩ v1 (ai v2) (by omega) (by omega)
   all_goals
    exact Zp _
  ·conv=>whnf
   exact six _
 ·conv=>whnf
  exact six _
noncomputable def Ll(L L0:LP)(T U:Nat)(z:Int)(C:Cl):Prop:=∀(ns:List Int) (n:Nat) (sp line left l:Int) (tl:List (Option aL)) (γ:Nat) (sv:Bool) (Q:KV),sp+1=(n:Int)->n+T<=80000->ns.length<=70->0<=line->line+U<=90000->Ln l->
 (∀(f:SF) (n':Nat) (il aY bU:Int) (τ:List aL),Ju L L0 sv f->il+1=(n':Int)->n'<=n+T->line<=aY->aY<=line+U->Q (.d (cy f)) (dk ns il aY bU tl γ τ))->C gF [.b 0,.d (.int l),.d (.int z),.d (.bool sv)] (dk ns sp line left tl γ []) Q
theorem NR.g{L L0:LP}{S:Nat}{z:Int}{C:Cl}(h:NR L L0 S z C):Ll L L0 (3*S+122) (3*S+40) z C:=fun ns n sp line left l tl γ sv Q a b c d e f k=>
 h ns n sp line left l tl γ sv Q a (ai b) c d (by omega) f fun g n' il aY bU τ q1 q2 q3 q4 q5=>k g n' il aY bU τ q1 q2 (ai q3) q4 (by omega)
theorem GL.g{L L0:LP}{z:Int}{C:Cl}(h:GL L L0 z C):Ll L L0 10 0 z C:=fun ns n sp line left l tl γ sv Q a b c d e f k=>
 h ns n sp line left l tl γ sv Q a (by omega) c f fun g n' il τ q1 q2 q3=>k g n' il line left τ q1 q2 (ai q3) (by omega) (by omega)
noncomputable def k8(z:Int)(sv:Bool)(rest:ak):ak:=(ay,.b 0)::(dX,.d (.int z))::(bg,.d (.bool sv))::(cf,.t 0)::rest
noncomputable def rX(rest:ak):Prop:=rest=[]\/∃a,rest=[(df,.d a)]
noncomputable def mS:List T:=[.asg (.sub (.var ay) (.c (.str eN))) (.bin .sub (.sub (.var ay) (.c (.str eN))) (.c (.int (.ofNat 1)))),.asg (.sub (.var ay) (.c (.str ba))) (.bin .add (.sub (.var ay) (.c (.str ba))) (.c (.int (.ofNat 1)))),.expr (.append (.var cf) (.call gF [(.var ay),(.sub (.var ay) (.c (.str ba))),(.var dX),(.var bg)]))]
theorem Iu{C:Cl}{L L0:LP}{T U:Nat}{z:Int}(ho:Ll L L0 T U z C)
  {ns:List Int} {n:Nat} {sp line left:Int} {tl:List (Option aL)} {γ:Nat} {sv:Bool} {rest:ak} {r:List D} {x:D} {R:ak->St->Prop} {Q:KF} (hr:rX rest) (xI:r.length<=100)
  (oT:sp+1=(n:Int)) (hn:n+T<=80000) (hl:ns.length<=70) (h0:0<=line) (hU:line+(U+1)<=90000)
  (k:∀(f:SF) (n':Nat) (il aY bU:Int) (aG:ak),Ju L L0 sv f->rX aG->il+1=(n':Int)->n'<=n+T->line<=aY->aY<=line+(U+1)->R (k8 z sv aG) (dk ns il aY bU tl γ [.list [] (cy f::r)])):
  gC (ex G C 59) mS (jb df (.d x) (k8 z sv rest)) (dk ns sp line left tl γ [.list [] r]) (wB R Q):=by
 rcases hr with rfl|⟨a0,rfl⟩
 all_goals
  refine⟨by show 4<=100;decide,?_⟩;refine⟨by show 4<=100;decide,?_⟩;refine ho ns n sp (line+Int.ofNat 1) (left-Int.ofNat 1) (line+Int.ofNat 1) tl γ sv _ oT hn hl ?_ ?_ ?_ fun f n' il aY bU τ fo q1 q2 q3 q4=>?_
  ·show 0<=line+1;exact xD h0
  ·show line+1+U<=90000;exact xD hU
  ·show 0<=line+1/\line+1<=100000;exact⟨xD h0,zc hU (DS (U))⟩
  ·replace q3:line+1<=aY:=q3;replace q4:aY<=line+1+U:=q4;have z1:0+r.length<ah:=by unfold ah;exact ai xI
   rcases f with _|_<;>
   ·refine⟨z1,?_⟩;exact k _ n' il aY bU [(df,.d x)] fo (.inr ⟨_,rfl⟩) q1 q2 (xD q3) (xD q4)
theorem Iv{C:Cl}{L L0:LP}{T U:Nat}{z:Int}(ho:Ll L L0 T U z C)
  {ns:List Int} {tl:List (Option aL)} {γ:Nat} {sv:Bool} {Q:KF} (hl:ns.length<=70):∀(xs:List D) (n:Nat) (sp line left:Int) (rest:ak) (acc:List D),
  rX rest->acc.length+xs.length<=2->(∀a∈acc,∃f,Ju L L0 sv f/\a=cy f)->sp+1=(n:Int)->n+xs.length*T<=80000->0<=line->line+xs.length*((U:Int)+1)<=90000->
  (∀(wF:List D) (n':Nat) (il aY bU:Int) (aG:ak),wF.length=acc.length+xs.length->(∀a∈wF,∃f,Ju L L0 sv f/\a=cy f)->rX aG->il+1=(n':Int)->n'<=n+xs.length*T->line<=aY->aY<=line+xs.length*((U:Int)+1)->Q .next (k8 z sv aG) (dk ns il aY bU tl γ [.list [] wF]))->
  forL (ex G C 59) [df] mS none xs (k8 z sv rest) (dk ns sp line left tl γ [.list [] acc]) Q:=by
 intro l0
 induction l0 with
 |nil=>
  intro n sp line left rest acc hr h3 wx oT hn h0 hS k;exact k acc n sp line left rest rfl wx hr oT (by omega) (by omega) (by simp only[List.length_nil,Int.natCast_zero,Int.zero_mul];omega)
 |cons x xs ih=>
  intro n sp line left rest acc hr h3 wx oT hn h0 hS k;rw[List.length_cons]at h3;have e1:(x::xs).length*T=xs.length*T+T:=Nat.succ_mul _ _;have e2:(((x::xs).length:Nat):Int)*((U:Int)+1)=(xs.length:Int)*((U:Int)+1)+((U:Int)+1):=by
   rw[List.length_cons,Int.natCast_succ,Int.add_mul,Int.one_mul]
  have p1:0<=(xs.length:Int)*((U:Int)+1):=Int.mul_nonneg (xD (DS (xs.length))) (xD (DS (U)));rw[e1]at hn k;rw[e2]at hS k;refine az (dn) ?_;refine Iu ho hr (ai h3) oT (ai hn) hl h0 (zc hS p1) fun f n' il aY bU aG fo je Rt pT yT DK=>?_;refine ih n' il aY bU aG (cy f::acc) je (by rw[List.length_cons];exact ai h3) (fun b hb=>?_) Rt (aZ hn pT) (zc h0 yT) (zc hS DK) fun wF n2 GK iK jv gX q1 q2 q3 q4 q5 q6 q7=>?_
  ·rcases List.mem_cons.mp hb with rfl|hb
   ·exact⟨f,fo,rfl⟩
   ·exact wx b hb
  ·exact k wF n2 GK iK jv gX (by rw[q1,List.length_cons,List.length_cons];omega) q2 q3 q4 (aZ pT q5) (zc yT q6) (zc DK q7)
theorem Lm{C:Cl}{L L0:LP}{T U S:Nat}{z:Int}(hp:lE C)(ho:Ll L L0 T U z C)(hz:(z=0/\T<=S/\U+1<=S)\/(1+2*T<=S/\2*(U+1)<=S))(h8:S<=80000):oV (NJ L L0) S z (Run C):=by
 intro ns n sp line left tl γ sv Q oT hn hl h0 hS k;have go:∀(c n1:Nat) (Ay:Int),c<=2->Ay+1=(n1:Int)->n1+c*T<=n+S->line+c*((U:Int)+1)<=line+S->
   forL (ex G C 59) [df] mS none (eM c) (k8 z sv []) (dk ns Ay line left tl γ [.list [] []]) (ML (fun ê σ=>gC (ex G C 60) [.ret (some (.var cf))] ê σ (fS Q)) (fS Q)):=by
  intro c n1 Ay hc h1 h2 h3;have xI:(eM c).length=c:=by unfold eM;rw[List.length_map,List.length_range]
  refine Iv ho hl (eM c) n1 Ay line left [] [] (.inl rfl) (by rw[xI];simp only[List.length_nil];exact ai hc) (fun a ha=>by rcases ha with _|_) h1 (by rw[xI];exact aZ hn h2) h0 (by rw[xI];exact zc hS h3) fun acc n' il aY bU aG q1 q2 q3 q4 q5 q6 q7=>?_;rw[xI]at q1 q5 q7;have hle:acc.reverse.length<=2:=by
   refine az (List.length_reverse) ?_;refine az (q1) ?_;show 0+c<=2;exact ai hc
  rcases q3 with rfl|⟨a0,rfl⟩
  all_goals
   exact k acc.reverse n' il aY bU _ ⟨hle,fun x hx=>q2 x (List.mem_reverse.mp hx)⟩ q4 (aZ h2 q5) q6 (zc h3 q7)
 have one:=go 1 n sp (by decide) oT (by omega) (by omega);show gC (ex G C 60) ((P.code dO).take 2++(P.code dO).drop 2) [(ay,.b 0),(dX,.d (.int z)),(bg,.d (.bool sv))] (dk ns sp line left tl γ []) (fS Q);rw[Aw];show ex G C 60 (.gQ [df] (.su (.ite (.cx (.cmp .gt (.var dX) (.c (.int (.ofNat 0)))) (.cmp .gt (.sub (.var ay) (.c (.str eN))) (.c (.int (.ofNat 0))))) (.call aT [(.var ay),(.c (.int (.ofNat 3)))]) (.c (.int (.ofNat 1))))) mS) (k8 z sv []) (dk ns sp line left tl γ [.list [] []]) (ML (fun ê σ=>gC (ex G C 60) [.ret (some (.var cf))] ê σ (fS Q)) (fS Q));generalize ML (fun ê σ=>gC (ex G C 60) [.ret (some (.var cf))] ê σ (fS Q)) (fS Q)=K at go one⊢;show mA (ev G C 59) (.su (.ite (.cx (.cmp .gt (.var dX) (.c (.int (.ofNat 0)))) (.cmp .gt (.sub (.var ay) (.c (.str eN))) (.c (.int (.ofNat 0))))) (.call aT [(.var ay),(.c (.int (.ofNat 3)))]) (.c (.int (.ofNat 1))))) (k8 z sv []) (dk ns sp line left tl γ [.list [] []]) (fun xs w ab=>forL (ex G C 59) [df] mS w xs (k8 z sv []) ab K);have ex1:∃F:List D->Option (Nat×List D)->St->Prop,F=fun xs w ab=>forL (ex G C 59) [df] mS w xs (k8 z sv []) ab K:=⟨_,rfl⟩;obtain⟨F,hF⟩:=ex1;refine Jn (hF) ?_;have Zq:∀(c n1:Nat) (Ay:Int),c<=2->Ay+1=(n1:Int)->n1+c*T<=n+S->line+c*((U:Int)+1)<=line+S->F (eM c) none (dk ns Ay line left tl γ [.list [] []]):=by
  rw[hF];exact go
 have VD:F (eM 1) none (dk ns sp line left tl γ [.list [] []]):=by
  rw[hF];exact one
 clear hF go one
 conv=>whnf
 split
 ·rename_i hd;have QY:(1+2*T<=S/\2*(U+1)<=S):=by
   rcases hz with⟨rfl,_⟩|h
   ·exact absurd hd (by decide)
   ·exact h
  conv=>whnf
  split
  ·conv=>whnf
   refine hp ns n sp line left tl γ (Int.ofNat 3) _ (by decide) oT (ai hn) hl fun p NO Zk=>?_;rcases three NO Zk with rfl|rfl|rfl
   ·conv=>whnf
    exact Zq 0 (n+1) (Int.ofNat n) (by decide) rfl (ai QY.1) (xD (DS (S)))
   ·conv=>whnf
    exact Zq 1 (n+1) (Int.ofNat n) (by decide) rfl (ai QY.1) (by omega)
   ·conv=>whnf
    exact Zq 2 (n+1) (Int.ofNat n) (by decide) rfl (ai QY.1) (by omega)
  ·conv=>whnf
   exact VD
 ·conv=>whnf
  exact VD
noncomputable def Bz:Nat->Nat
 |0=>10
 |n+1=>6*Bz n+250
theorem VE:∀n,10<=Bz n
 |0=>Nat.le_refl _
 |n+1=>by show 10<=6*Bz n+250;omega
theorem PE:∀n,n<=3->Bz n<=20000
 |0,_=>by decide
 |1,_=>by decide
 |2,_=>by decide
 |3,_=>by decide
 |_+4,h=>absurd h (by exact Nat.not_le_of_lt (by omega))
theorem lF:∀{d:Nat},1<=d->lE (Cd G P d)
 |0,h=>absurd h (by decide)
 |_+1,_=>Rn
theorem rY:∀{d:Nat},2<=d->mj (Cd G P d)
 |0,h=>absurd h (by decide)
 |_+1,h=>NL (lF (ai h))
theorem GN:∀{d:Nat},3<=d->Fo (Cd G P d)
 |0,h=>absurd h (by decide)
 |_+1,h=>Vz (lF (ai h)) (rY (ai h))
theorem NS:∀{d:Nat},2<=d->wD (Cd G P d)
 |0,h=>absurd h (by decide)
 |_+1,h=>NM (lF (ai h))
theorem Lo:∀{d:Nat},4<=d->GI (Cd G P d)
 |0,h=>absurd h (by decide)
 |_+1,h=>Rp (lF (ai h)) (rY (ai h)) (GN (ai h))
theorem Rv:∀{d:Nat},4<=d->GL Xg Xg 0 (Cd G P d)
 |0,h=>absurd h (by decide)
 |_+1,h=>Ru rfl (lF (ai h)) (rY (ai h)) (GN (ai h))
theorem GO:∀{d:Nat},5<=d->oV NK 10 0 (Cd G P d)
 |0,h=>absurd h (by decide)
 |_+1,h=>Lm (T:=10) (U:=0) (lF (ai h)) (Rv (ai h)).g (.inl ⟨rfl,by decide,by decide⟩) (by decide)
theorem Lp:∀(n d:Nat) (z:Int),n<=3->z=(n:Int)->5*n+5<=d->oV (SL n) (Bz n) z (Cd G P d)
 |0,d,z,_,hz,h=>by subst hz;exact GO (by omega)
 |n+1,0,z,hn,hz,h=>absurd h (by exact Nat.not_le_of_lt (by omega))
 |n+1,d+1,z,hn,hz,h=>by
  have hb:6*Bz n+250<=20000:=PE (n+1) hn;have QO:=VE n;have hr:∀d,5*n+5<=d->oV (SL n) (Bz n) (z-1) (Cd G P d):=fun d hd=>Lp n d (z-1) (ai hn) (by omega) hd;have ac:∀d,5*n+6<=d->pG (SL n) (Bz n) z (Cd G P d)
   |0,hd=>absurd hd (by exact Nat.not_le_of_lt (by omega))
   |d+1,hd=>Lg (lF (ai hd)) (GN (ai hd)) (hr d (ai hd))
  have sc:∀d,5*n+7<=d->Rq (SL n) NK (Bz n) z (Cd G P d)
   |0,hd=>absurd hd (by exact Nat.not_le_of_lt (by omega))
   |d+1,hd=>VB QO (lF (ai hd)) (rY (ai hd)) (NS (ai hd)) (Lo (ai hd)) (ac d (ai hd)) (hr d (ai hd)) (GO (ai hd))
  have oc:∀d,5*n+8<=d->NR (SL n) NK (Bz n) z (Cd G P d)
   |0,hd=>absurd hd (by exact Nat.not_le_of_lt (by omega))
   |d+1,hd=>VC (lF (ai hd)) (rY (ai hd)) (GN (ai hd)) (Lo (ai hd)) (ac d (ai hd)) (sc d (ai hd)) (hr d (ai hd))
  have e:Bz (n+1)=6*Bz n+250:=by rw[Bz]
  have b:∀x y:Nat,y=6*x+250->y<=20000->(1+2*(3*x+122)<=y/\2*(3*x+40+1)<=y)/\y<=80000:=by intro x y a b;exact⟨⟨ai (xC a),ai (xC a)⟩,ai b⟩
  have⟨b3,b5⟩:=b _ _ e (PE (n+1) hn);exact Lm (lF (ai h)) (oc d (ai h)).g (.inr b3) b5
section
set_option genCtorIdx false
inductive Row where
 |const (k:Int)
 |obj (a:Int) (s:Str)
 |place
 |target
 |wH
 |mT
 |gL (m:Nat)
 |j9 (m:Nat)
 |step (l:Int)
 |block
 |arm
 |bL
 |fx
 |i7
 |cP
 |jU (e:Str) (f c:Nat)
 |bu (e:Str) (f c:Nat) (how:Option Bool) (m:Nat)
 |accept (e:Str) (f:Nat) (fm:D)
 |cL (fm:D)
 |gk
 |iS (i:Nat) (e:Str) (f:Nat)
 |jV (i:Nat) (u:Bool)
 |pJ (i:Nat)
 |select (b:Bool) (ms:List Nat) (m:Nat)
 |dt (u:Bool)
 |abort
 |cK (e:Str) (f p:Nat) (u:Bool)
noncomputable def qL:Option Bool->Str
 |none=>sM
 |some true=>zw
 |some false=>bE
noncomputable def bV(M:Nat->Int):Row->D
 |.const k=>.tuple [.str j4,.int k]
 |.obj a s=>.tuple [.str iG,.int a,.str s]
 |.place=>.tuple [.str ny,.int (.ofNat 0),.str SQ]
 |.target=>.tuple [.str da,tZ]
 |.wH=>.tuple [.str fX]
 |.mT=>.tuple [.str dc]
 |.gL m=>.tuple [.str jN,.int (M m)]
 |.j9 m=>.tuple [.str mJ,.int (M m)]
 |.step l=>.tuple [.str nk,.int l]
 |.block=>.tuple [.str gp,.str aI]
 |.arm=>.tuple [.str q8,.list [],.list []]
 |.bL=>.tuple [.str fN]
 |.fx=>.tuple [.str fg]
 |.i7=>.tuple [.str gi]
 |.cP=>.tuple [.str iE]
 |.jU e f c=>.tuple [.str cu,.str e,.int (.ofNat f),.int (.ofNat c)]
 |.bu e f c how m=>.tuple [.str dK,.str e,.int (.ofNat f),.int (.ofNat c),.str (qL how),.int (M m)]
 |.accept e f fm=>.tuple [.str bw,.str e,.int (.ofNat f),fm]
 |.cL fm=>.tuple [.str cO,fm]
 |.gk=>.tuple [.str qs]
 |.iS i e f=>.tuple [.str bN,.int (.ofNat i),.str e,.int (.ofNat f)]
 |.jV i u=>.tuple [.str de,.int (.ofNat i),.bool u]
 |.pJ i=>.tuple [.str eH,.int (.ofNat i)]
 |.select b ms m=>.tuple [.str bB,.bool b,.list (ms.map fun m=>.int (M m)),.int (M m)]
 |.dt u=>.tuple [.str bE,.bool u]
 |.abort=>.tuple [.str d6]
 |.cK e f p u=>.tuple [.str cz,.str e,.int (.ofNat f),.int (.ofNat p),.bool u]
noncomputable def Bj:Row->Int
 |.const _=>1
 |.obj _ _=>1
 |.place=>1
 |.j9 _=> -1
 |.jU _ f c=> -(1+f+c)
 |.bu _ f c how _=> -(1+f+c+(match how with|none=>0|some _=>1))
 |.accept _ f _=> -f
 |.gk=>1
 |.iS _ _ f=> -f
 |.jV _ _=> -1
 |.select _ _ _=> -1
 |.dt _=> -1
 |.abort=> -1
 |.cK _ f p _=> -(f+p)
 |_=>0
noncomputable abbrev M0:Nat->Int:=Int.ofNat
structure Fr where
 ns:List Int
 sp:Int
 line:Int
 left:Int
 body:List D
noncomputable def GP(b:List D):aL:=.inst 2 [(vE,.d (.str YA)),(sQ,.d (.bool false)),(sR,.d (.list [])),(g8,.d (.list [])),(bo,.d (.list b)),(cV,.d (.list []))]
noncomputable def nM:aL:=.dict [(qq,.fn lR),(vD,.fn mc),(QB,.fn sV),(D8,.fn ot),(D9,.fn ou),(Ea,.fn ox),(gp,.fn ib),(q9,.fn nG),(mG,.fn j6),
 (cu,.fn ie),(bw,.fn gD),(cz,.fn f7),(bB,.fn gE),(bE,.fn kW),(d6,.fn kY)]
noncomputable def qi:aL:=.dict [(cu,.fn ie),(bw,.fn gD),(cz,.fn f7),(bB,.fn gE),(bE,.fn kW),(d6,.fn kY)]
noncomputable def rZ:aL:=.dict [(pA,.b 17),(fV,.b 18),(fp,.b 2),(lu,.b 19)]
noncomputable def oW:aL:=.dict [(qc,.fn sW),(qq,.fn vV),(iG,.fn sX),(Eb,.fn vW),(vF,.fn vX),(ri,.fn tQ),(rj,.fn tR),(rn,.fn tS)]
noncomputable def pK:aL:=.dict [(iG,.fn oz),(vF,.fn rC),(ri,.fn qd),(rj,.fn qe),(rn,.fn qf),(Ec,.fn jk),(Ed,.fn jk)]
noncomputable def Fp(h av:Int):aL:=.inst 0 [(eh,.b 3),(bT,.b 5),(dp,.b 6),(aN,.d (.int h)),(c9,.d (.int av)),(uO,.d (.list [])),(iY,.b 7),(j2,.d (.int (.ofNat 0))),(lQ,.d (.list []))]
noncomputable def t5(p:Nat×Nat):ag:=.ob 1 [(j3,.none),(eY,.int (.ofNat p.1)),(aN,.int (.ofNat 0)),(c9,.int (.ofNat p.2))]
noncomputable def cS(fr:Fr)(rr:List Row)(mr:List Int)(aB:List (Nat×Nat))(h av:Int)(γ:Nat)(τ:List aL):St:=
 ⟨[some (mR fr.ns fr.sp fr.line fr.left),some (GP fr.body),some nM,some rZ,some (Fp h av),some (.list [] (rr.map (bV M0))),some (.list [] (mr.map PyData.int)),some (.list (aB.map t5) []),
  none,none,none,none,none,none,none,none,some qi,some oW,some pK,some (.dict [])],τ,γ⟩
noncomputable def tj(C:Cl):Prop:=∀(r:Row) (fr:Fr) (rr:List Row) (mr:List Int) (aB:List (Nat×Nat)) (h av:Int) (γ:Nat) (Q:KV),rr.length<=100000->
 (∀h',h'=h+Bj r->Q (.d .none) (cS fr (r::rr) mr aB h' av γ []))->C cB [.b 4,.d (bV M0 r)] (cS fr rr mr aB h av γ []) Q
noncomputable def Rx(C:Cl):Prop:=∀(r:Row) (σ:St) (Q:KV),σ.temps=[]->
 (∀t l:Int,l-t=Bj r->Q (.d (.tuple [.int t,.int l])) σ)->C i5 [.d (bV M0 r)] σ Q
noncomputable def wI(C:Cl):Prop:=∀(r:Row) (σ:St) (Q:KV),σ.temps=[]->∀w xs s,bV M0 r=.tuple (.str w::xs)->dF w uP=some s->
 Q (.d s) σ->C nE [.d (bV M0 r)] σ Q
theorem NT{C:Cl}:wI (Run C):=by
 intro r σ Q Iw w xs s hw hs k;cases σ;cases Iw;cases r<;>(cases hw;cases hs;conv=>whnf)
 all_goals exact k
noncomputable def NU:List T:=[.fM (.cmp .eq (.sub (.var bM) (.var aW)) (.c (.str Ur))) [.aug d5 .add (.sub (.var s_row) (.bin .add (.var aW) (.c (.int (.ofNat 1)))))] [.fM (.cx (.cmp .eq (.sub (.var bM) (.var aW)) (.c (.str s_w))) (.cmp .ne (.sub (.var s_row) (.bin .add (.var aW) (.c (.int (.ofNat 1))))) (.c (.str sM)))) [.aug d5 .add (.c (.int (.ofNat 1)))] []]]
theorem Lq:(P.code i5).drop 1=[.gQ [aW] (.su (.len (.var bM))) NU]++(P.code i5).drop 2:=rfl
set_option tactic.hygienic true in
set_option maxHeartbeats 400000 in
theorem VF{C:Cl}(hs:wI C):Rx (Run C):=by
 intro r σ Q Iw k;cases σ;rcases Iw with _|_
 rcases r with _|_
 case const k0=>
  refine hs (.const k0) ⟨_,[],_⟩ _ rfl _ _ _ rfl rfl ?_
  all_goals
   refine k _ _ ?_;rfl
 case obj a s=>
  refine hs (.obj a s) ⟨_,[],_⟩ _ rfl _ _ _ rfl rfl ?_
  all_goals
   refine k _ _ ?_;rfl
 case place=>
  refine hs (.place) ⟨_,[],_⟩ _ rfl _ _ _ rfl rfl ?_
  all_goals
   refine k _ _ ?_;rfl
 case target=>
  refine hs (.target) ⟨_,[],_⟩ _ rfl _ _ _ rfl rfl ?_
  all_goals
   refine k _ _ ?_;rfl
 case wH=>
  refine hs (.wH) ⟨_,[],_⟩ _ rfl _ _ _ rfl rfl ?_
  all_goals
   refine k _ _ ?_;rfl
 case mT=>
  refine hs (.mT) ⟨_,[],_⟩ _ rfl _ _ _ rfl rfl ?_
  all_goals
   refine k _ _ ?_;rfl
 case gL m=>
  refine hs (.gL m) ⟨_,[],_⟩ _ rfl _ _ _ rfl rfl ?_
  all_goals
   refine k _ _ ?_;rfl
 case j9 m=>
  refine hs (.j9 m) ⟨_,[],_⟩ _ rfl _ _ _ rfl rfl ?_
  all_goals
   refine k _ _ ?_;rfl
 case step l=>
  refine hs (.step l) ⟨_,[],_⟩ _ rfl _ _ _ rfl rfl ?_
  all_goals
   refine k _ _ ?_;rfl
 case block=>
  refine hs (.block) ⟨_,[],_⟩ _ rfl _ _ _ rfl rfl ?_
  all_goals
   refine k _ _ ?_;rfl
 case arm=>
  refine hs (.arm) ⟨_,[],_⟩ _ rfl _ _ _ rfl rfl ?_
  all_goals
   refine k _ _ ?_;rfl
 case bL=>
  refine hs (.bL) ⟨_,[],_⟩ _ rfl _ _ _ rfl rfl ?_
  all_goals
   refine k _ _ ?_;rfl
 case fx=>
  refine hs (.fx) ⟨_,[],_⟩ _ rfl _ _ _ rfl rfl ?_
  all_goals
   refine k _ _ ?_;rfl
 case i7=>
  refine hs (.i7) ⟨_,[],_⟩ _ rfl _ _ _ rfl rfl ?_
  all_goals
   refine k _ _ ?_;rfl
 case cP=>
  refine hs (.cP) ⟨_,[],_⟩ _ rfl _ _ _ rfl rfl ?_
  all_goals
   refine k _ _ ?_;rfl
 case jU e f c=>
  refine hs (.jU e f c) ⟨_,[],_⟩ _ rfl _ _ _ rfl rfl ?_
  all_goals
   refine k _ _ ?_;simp only[Bj,Int.ofNat_eq_natCast];omega
 case bu e f c how m=>
  show gC (ex G C 60) ((P.code i5).take 1++(P.code i5).drop 1) [(s_row,.d (bV M0 (.bu e f c how m)))] _ _;refine bq fun R hR=>?_;refine hs (.bu e f c how m) ⟨_,[],_⟩ _ rfl _ _ _ rfl rfl ?_;refine hR [(s_row,.d (bV M0 (.bu e f c how m))),(d5,.d (.int (.ofNat 1))),(eN,.d (.int (.ofNat 0))),(bM,.d (.str jQ))] _ ?_;refine az (Lq) ?_;refine bq fun R2 t6=>?_;refine ju fun F hF=>?_;refine hF [.int (.ofNat 0),.int (.ofNat 1),.int (.ofNat 2),.int (.ofNat 3),.int (.ofNat 4)] none _ ?_;refine az (dn) ?_;refine wC fun R3 NV=>?_;refine NV [(s_row,.d (bV M0 (.bu e f c how m))),(d5,.d (.int (.ofNat 1))),(eN,.d (.int (.ofNat 0))),(bM,.d (.str jQ)),(aW,.d (.int (.ofNat 0)))] _ ?_;refine az (dn) ?_;refine wC fun R3 NV=>?_;refine NV [(s_row,.d (bV M0 (.bu e f c how m))),(d5,.d (.int (.ofNat (1+f)))),(eN,.d (.int (.ofNat 0))),(bM,.d (.str jQ)),(aW,.d (.int (.ofNat 1)))] _ ?_;refine az (dn) ?_;refine wC fun R3 NV=>?_;refine NV [(s_row,.d (bV M0 (.bu e f c how m))),(d5,.d (.int (.ofNat (1+f+c)))),(eN,.d (.int (.ofNat 0))),(bM,.d (.str jQ)),(aW,.d (.int (.ofNat 2)))] _ ?_;refine az (dn) ?_;refine wC fun R3 NV=>?_;have tl:∀t,t=1+f+c+(match how with|none=>0|some _=>1)->R3 [(s_row,.d (bV M0 (.bu e f c how m))),(d5,.d (.int (.ofNat t))),(eN,.d (.int (.ofNat 0))),(bM,.d (.str jQ)),(aW,.d (.int (.ofNat 3)))] ⟨_,[],_⟩:=fun t ht=>by
   refine NV _ _ ?_;refine az (dn) ?_;refine wC fun R4 Zr=>?_;refine Zr [(s_row,.d (bV M0 (.bu e f c how m))),(d5,.d (.int (.ofNat t))),(eN,.d (.int (.ofNat 0))),(bM,.d (.str jQ)),(aW,.d (.int (.ofNat 4)))] _ ?_;refine t6 _ _ ?_;refine k (.ofNat t) (.ofNat 0) ?_;subst ht;rcases how with _|_<;>
   ·simp only[Bj,Int.ofNat_eq_natCast];omega
  rcases how with _|_|_
  all_goals
   exact tl _ rfl
 case accept e f fm=>
  refine hs (.accept e f fm) ⟨_,[],_⟩ _ rfl _ _ _ rfl rfl ?_
  all_goals
   refine k _ _ ?_;simp only[Bj,Int.ofNat_eq_natCast];omega
 case cL fm=>
  refine hs (.cL fm) ⟨_,[],_⟩ _ rfl _ _ _ rfl rfl ?_
  all_goals
   refine k _ _ ?_;rfl
 case gk=>
  refine hs (.gk) ⟨_,[],_⟩ _ rfl _ _ _ rfl rfl ?_
  all_goals
   refine k _ _ ?_;rfl
 case iS i e f=>
  refine hs (.iS i e f) ⟨_,[],_⟩ _ rfl _ _ _ rfl rfl ?_
  all_goals
   refine k _ _ ?_;simp only[Bj,Int.ofNat_eq_natCast];omega
 case jV i u=>
  refine hs (.jV i u) ⟨_,[],_⟩ _ rfl _ _ _ rfl rfl ?_
  all_goals
   refine k _ _ ?_;rfl
 case pJ i=>
  refine hs (.pJ i) ⟨_,[],_⟩ _ rfl _ _ _ rfl rfl ?_
  all_goals
   refine k _ _ ?_;rfl
 case select b ms m=>
  refine hs (.select b ms m) ⟨_,[],_⟩ _ rfl _ _ _ rfl rfl ?_
  all_goals
   refine k _ _ ?_;rfl
 case dt u=>
  refine hs (.dt u) ⟨_,[],_⟩ _ rfl _ _ _ rfl rfl ?_
  all_goals
   refine k _ _ ?_;rfl
 case abort=>
  refine hs (.abort) ⟨_,[],_⟩ _ rfl _ _ _ rfl rfl ?_
  all_goals
   refine k _ _ ?_;rfl
 case cK e f p u=>
  refine hs (.cK e f p u) ⟨_,[],_⟩ _ rfl _ _ _ rfl rfl ?_
  all_goals
   refine k _ _ ?_;simp only[Bj,Int.ofNat_eq_natCast];omega
end
theorem VG{C:Cl}(he:Rx C):tj (Run C):=by
 intro r fr rr mr aB h av γ Q hl k;refine he r (cS fr rr mr aB h av γ []) _ rfl fun t l e=>?_;refine⟨by show 0+(rr.map (bV M0)).length<ah;rw[List.length_map];unfold ah;exact ai hl,?_⟩;have kk:=k (h+(l-t)) (by rw[e]);refine⟨by show 9<=100;decide,?_⟩;exact kk
noncomputable def gd(mr:List Int)(m:Nat):Int:=(aq mr (mr.length-1-m)).getD 0
noncomputable def eU(mr:List Int)(m:Nat)(v:Int):List Int:=setAt mr (mr.length-1-m) v
theorem CU{α:Type}:∀(l:List α) (i:Nat) (x:α),(setAt l i x).length=l.length
 |[],_,_=>rfl
 |_::_,0,_=>rfl
 |_::l,i+1,x=>congrArg (·+1) (CU l i x)
theorem CV{α:Type}:∀(l:List α) (i j:Nat) (x:α),i<l.length->aq (setAt l i x) j=if i=j then some x else aq l j
 |[],_,_,_,h=>absurd h (Nat.not_lt_zero _)
 |_::l,0,0,x,_=>by simp[setAt,aq]
 |_::l,0,j+1,x,_=>by simp[setAt,aq]
 |_::l,i+1,0,x,_=>by simp[setAt,aq]
 |_::l,i+1,j+1,x,h=>by
  have:=CV l i j x (Nat.lt_of_succ_lt_succ h);show aq (setAt l i x) j=_;refine az (this) ?_;by_cases e:i=j<;>simp[e,aq]
theorem CW{α β:Type}(f:α->β):∀(l:List α) (i:Nat) (x:α),setAt (l.map f) i (f x)=(setAt l i x).map f
 |[],_,_=>rfl
 |_::_,0,_=>rfl
 |y::l,i+1,x=>congrArg (f y::·) (CW f l i x)
theorem aE(mr:List Int)(m:Nat)(v:Int):(eU mr m v).length=mr.length:=CU _ _ _
theorem jw{mr:List Int}{m:Nat}(x:Int)(h:m<mr.length):gd (x::mr) m=gd mr m:=by
 unfold gd;have:(x::mr).length-1-m=(mr.length-1-m)+1:=Qc h;rw[this];rfl
theorem dJ{mr:List Int}{m m':Nat}(v:Int)(h:m<mr.length)(h':m'<mr.length):gd (eU mr m v) m'=if m=m' then v else gd mr m':=by
 unfold gd;rw[aE];unfold eU;refine az (CV _ _ _ _ (F8 h)) ?_;by_cases e:m=m'
 ·subst e;simp
 ·rw[if_neg (F9 h h' e),if_neg e]
noncomputable def Ry(C:Cl):Prop:=∀(fr:Fr) (rr:List Row) (mr:List Int) (aB:List (Nat×Nat)) (h av:Int) (γ:Nat) (Q:KV),mr.length<=100000->
 Q (.d (.int (.ofNat mr.length))) (cS fr rr (-1::mr) aB h av γ [])->C dA [.b 4] (cS fr rr mr aB h av γ []) Q
theorem VH{C:Cl}:Ry (Run C):=by
 intro fr rr mr aB h av γ Q hl k;refine⟨by show 0+(mr.map PyData.int).length<ah;rw[List.length_map];unfold ah;exact ai hl,?_⟩;refine aj (by show 0+((mr.map PyData.int).length+1)<=ah;rw[List.length_map];unfold ah;exact ai hl) ?_;have e:(Int.ofNat (0+((mr.map PyData.int).length+1))-Int.ofNat 1)=Int.ofNat mr.length:=by
  rw[List.length_map];simp only[Int.ofNat_eq_natCast];omega
 have kk:Q (.d (.int (Int.ofNat (0+((mr.map PyData.int).length+1))-Int.ofNat 1))) (cS fr rr (-1::mr) aB h av γ []):=by rw[e];exact k
 exact kk
noncomputable def Rz(C:Cl):Prop:=∀(fr:Fr) (rr:List Row) (mr:List Int) (aB:List (Nat×Nat)) (h av:Int) (γ:Nat) (m:Nat) (hh:Int) (Q:KV),rr.length<=100000->mr.length<=100000->m<mr.length->
 Q (.d .none) (cS fr rr (eU mr m rr.length) aB hh av γ [])->C ee [.b 4,.d (.int (.ofNat m)),.d (.int hh)] (cS fr rr mr aB h av γ []) Q
theorem VI{C:Cl}:Rz (Run C):=by
 intro fr rr mr aB h av γ m hh Q hl xG hm k;refine aj (by show 0+(rr.map (bV M0)).length<=ah;rw[List.length_map];unfold ah;exact ai hl) ?_;refine⟨⟨by rw[List.length_map];exact hm,by rw[List.length_map];unfold ah;omega⟩,?_⟩;refine⟨by show 9<=100;decide,?_⟩;have e:setAt (mr.map PyData.int) ((mr.map PyData.int).length-1-m) (.int ((0+(rr.map (bV M0)).length:Nat):Int))=(eU mr m rr.length).map PyData.int:=by
  rw[List.length_map,List.length_map,Nat.zero_add];exact CW _ _ _ _
 have kk:Q (.d .none) ⟨[some (mR fr.ns fr.sp fr.line fr.left),some (GP fr.body),some nM,some rZ,some (Fp hh av),some (.list [] (rr.map (bV M0))),some (.list [] (setAt (mr.map PyData.int) ((mr.map PyData.int).length-1-m) (.int ((0+(rr.map (bV M0)).length:Nat):Int)))),some (.list (aB.map t5) []),
  none,none,none,none,none,none,none,none,some qi,some oW,some pK,some (.dict [])],[],γ⟩:=by rw[e];exact k
 exact kk
noncomputable def PG(a:Int)(s:Str):D:=.tuple [.str iG,.int (.ofNat 0),.int a,.str s]
noncomputable def PH(k:Int):D:=.tuple [.str qc,.int (.ofNat 0),.int k]
noncomputable def Az(C:Cl):Prop:=∀(a:Int) (s:Str) (fr:Fr) (rr:List Row) (mr:List Int) (aB:List (Nat×Nat)) (h av:Int) (γ:Nat) (Q:KV),rr.length<=100000->
 (∀h',h'=h+1->Q (.d .none) (cS fr (.obj a s::rr) mr aB h' av γ []))->C sX [.b 4,.d (PG a s)] (cS fr rr mr aB h av γ []) Q
theorem Lr{C:Cl}(hl:tj C):Az (Run C):=by
 intro a s fr rr mr aB h av γ Q hr k;refine hl (.obj a s) fr rr mr aB h av γ _ hr fun h' e=>?_;exact k h' e
noncomputable def AA(C:Cl):Prop:=∀(a:Int) (fr:Fr) (rr:List Row) (mr:List Int) (aB:List (Nat×Nat)) (h av:Int) (γ:Nat) (Q:KV),rr.length<=100000->
 (∀h',h'=h+1->Q (.d .none) (cS fr (.const a::rr) mr aB h' av γ []))->C sW [.b 4,.d (PH a)] (cS fr rr mr aB h av γ []) Q
theorem Ls{C:Cl}(hl:tj C):AA (Run C):=by
 intro a fr rr mr aB h av γ Q hr k;refine hl (.const a) fr rr mr aB h av γ _ hr fun h' e=>?_;exact k h' e
noncomputable def tm(C:Cl):Prop:=∀(fr:Fr) (rr:List Row) (mr:List Int) (aB:List (Nat×Nat)) (h av:Int) (γ:Nat) (Q:KV),rr.length<=100000->
 (∀h',h'=h+1->Q (.d .none) (cS fr (.place::rr) mr aB h' av γ []))->C oz [.b 4,.d tZ] (cS fr rr mr aB h av γ []) Q
theorem Fq{C:Cl}(hl:tj C):tm (Run C):=by
 intro fr rr mr aB h av γ Q hr k;refine hl .place fr rr mr aB h av γ _ hr fun h' e=>?_;exact k h' e
noncomputable def GQ(C:Cl):Prop:=∀(a:Int) (s:Str) (fr:Fr) (rr:List Row) (mr:List Int) (aB:List (Nat×Nat)) (h av:Int) (γ:Nat) (Q:KV),rr.length<=100000->
 (∀h',h'=h+1->Q (.d .none) (cS fr (.obj a s::rr) mr aB h' av γ []))->C bY [.b 4,.d (PG a s)] (cS fr rr mr aB h av γ []) Q
theorem RA{C:Cl}(hl:Az C):GQ (Run C):=by
 intro a s fr rr mr aB h av γ Q hr k;refine hl a s fr rr mr aB h av γ _ hr fun h' e=>?_;exact k h' e
noncomputable def GR(C:Cl):Prop:=∀(a:Int) (fr:Fr) (rr:List Row) (mr:List Int) (aB:List (Nat×Nat)) (h av:Int) (γ:Nat) (Q:KV),rr.length<=100000->
 (∀h',h'=h+1->Q (.d .none) (cS fr (.const a::rr) mr aB h' av γ []))->C bY [.b 4,.d (PH a)] (cS fr rr mr aB h av γ []) Q
theorem RB{C:Cl}(hl:AA C):GR (Run C):=by
 intro a fr rr mr aB h av γ Q hr k;refine hl a fr rr mr aB h av γ _ hr fun h' e=>?_;exact k h' e
noncomputable def dE:Th->Row
 |.obj=>.obj (.ofNat 1) Bi
 |.lit k=>.const k
noncomputable def CX(C:Cl):Prop:=∀(t:Th) (fr:Fr) (rr:List Row) (mr:List Int) (aB:List (Nat×Nat)) (h av:Int) (γ:Nat) (Q:KV),rr.length<=100000->
 (∀h',h'=h+1->Q (.d .none) (cS fr (dE t::rr) mr aB h' av γ []))->C bY [.b 4,.d (oQ t)] (cS fr rr mr aB h av γ []) Q
theorem Lu{C:Cl}(ho:GQ C)(hl:GR C):CX C
 |.obj=>ho (.ofNat 1) Bi
 |.lit k=>hl k
noncomputable def Fs(C:Cl):Prop:=∀(fr:Fr) (rr:List Row) (mr:List Int) (aB:List (Nat×Nat)) (h av:Int) (γ:Nat) (Q:KV),rr.length<=100000->
 (∀h',h'=h+1->Q (.d .none) (cS fr (.place::rr) mr aB h' av γ []))->C rz [.b 4,.d tZ] (cS fr rr mr aB h av γ []) Q
theorem NW{C:Cl}(hl:tm C):Fs (Run C):=by
 intro fr rr mr aB h av γ Q hr k;refine hl fr rr mr aB h av γ _ hr fun h' e=>?_;exact k h' e
noncomputable def pL(C:Cl):Prop:=∀(fr:Fr) (rr:List Row) (mr:List Int) (aB:List (Nat×Nat)) (h av:Int) (γ:Nat) (Q:KV),rr.length<=99990->
 (∀h',h'=h+1->Q (.d .none) (cS fr (.target::.place::rr) mr aB h' av γ []))->C l9 [.b 4,.d tZ] (cS fr rr mr aB h av γ []) Q
theorem Lv{C:Cl}(hp:Fs C)(hl:tj C):pL (Run C):=by
 intro fr rr mr aB h av γ Q hr k;refine hp fr rr mr aB h av γ _ (by omega) fun h' e=>?_;refine hl .target fr (.place::rr) mr aB h' av γ _ (by rw[List.length_cons];exact ai hr) fun h2 e2=>?_;exact k h2 (by rw[e2,e];exact Int.add_zero _)
noncomputable def bA:Option Th->Nat
 |none=>0
 |some _=>1
noncomputable def cg:Option Th->List Row
 |none=>[]
 |some t=>[dE t]
noncomputable def uT(C:Cl):Prop:=∀(f:Option Th) (fr:Fr) (rr:List Row) (mr:List Int) (aB:List (Nat×Nat)) (h av:Int) (γ:Nat) (Q:KV),rr.length<=99990->
 (∀h',h'=h+bA f->Q (.d (.int (.ofNat (bA f)))) (cS fr (cg f++rr) mr aB h' av γ []))->C iH [.b 4,.d (qI f)] (cS fr rr mr aB h av γ []) Q
theorem Lw{C:Cl}(hv:CX C):uT (Run C):=by
 intro f fr rr mr aB h av γ Q hr k;rcases f with _|_|a
 ·conv=>whnf
  exact k h (Int.add_zero _).symm
 ·conv=>whnf
  refine hv .obj fr rr mr aB h av γ _ (by omega) fun h' e=>?_;exact k h' e
 ·conv=>whnf
  refine hv (.lit a) fr rr mr aB h av γ _ (by omega) fun h' e=>?_;exact k h' e
noncomputable def tn:Option Th->List Row
 |some t=>[.wH,dE t]
 |none=>[.mT,.target,.place]
noncomputable def d8:List (Option Th)->List Row
 |[]=>[]
 |a::l=>d8 l++tn a
theorem CY(a:Option Th):(tn a).length<=3:=by rcases a with _|_<;>simp[tn]
theorem kq:∀(l:List (Option Th)),(d8 l).length<=3*l.length
 |[]=>Nat.le_refl _
 |a::l=>by
  have:=kq l;have:=CY a;unfold d8;refine az (List.length_append) ?_;refine az (List.length_cons) ?_;omega
noncomputable def AB:List T:=[.fM (.cmp .eq (.var fW) (.c (.str xO))) [.expr (.call bY [(.var af),(.var bh)]),.expr (.call cB [(.var af),(.tup [(.c (.str fX))])])] [.expr (.call l9 [(.var af),(.var bh)]),.expr (.call cB [(.var af),(.tup [(.c (.str dc))])])]]
noncomputable def wJ(x:D)(rest:ak):ak:=(af,.b 4)::(nq,.d x)::rest
noncomputable def uU(rest:ak):Prop:=rest=[]\/∃a b,rest=[(fW,.d a),(bh,.d b)]
noncomputable def r6(C:Cl):Prop:=∀(as:List (Option Th)) (fr:Fr) (rr:List Row) (mr:List Int) (aB:List (Nat×Nat)) (h av:Int) (γ:Nat) (Q:KV),as.length<=2->rr.length<=99900->
 (∀h',h'=h+as.length->Q (.d .none) (cS fr (d8 as++rr) mr aB h' av γ []))->C oq [.b 4,.d (.list (as.map gW))] (cS fr rr mr aB h av γ []) Q
theorem Lx{C:Cl}(hv:CX C)(ht:pL C)(hl:tj C){x:D}{rest:ak}(d9:uU rest){a:Option Th}{fr:Fr}{rr:List Row}{mr:List Int}{aB:List (Nat×Nat)}{h av:Int}{γ:Nat}{R:ak->St->Prop}{Q:KF}(hr:rr.length<=99980)
  (k:∀h' aG,uU aG->h'=h+1->R (wJ x aG) (cS fr (tn a++rr) mr aB h' av γ [])):
  bind1 [fW,bh] (gW a) (wJ x rest) fun ed=>gC (ex G C 59) AB ed (cS fr rr mr aB h av γ []) (wB R Q):=by
 rcases d9 with rfl|⟨a0,b0,rfl⟩
 all_goals
  induction a using Option.casesOn with
  |none=>
   refine ht fr rr mr aB h av γ _ (by omega) fun h' e=>?_;refine hl .mT fr (.target::.place::rr) mr aB h' av γ _ (by rw[List.length_cons,List.length_cons];exact ai hr) fun h2 e2=>?_;exact k h2 [(fW,.d (.str iZ)),(bh,.d tZ)] (.inr ⟨_,_,rfl⟩) (by rw[e2,e];exact Int.add_zero _)
  |some t=>
   refine hv t fr rr mr aB h av γ _ (by omega) fun h' e=>?_;refine hl .wH fr (dE t::rr) mr aB h' av γ _ (by rw[List.length_cons];exact ai hr) fun h2 e2=>?_;exact k h2 [(fW,.d (.str xO)),(bh,.d (oQ t))] (.inr ⟨_,_,rfl⟩) (by rw[e2,e];exact Int.add_zero _)
theorem Ly{C:Cl}(hv:CX C)(ht:pL C)(hl:tj C){x:D}{fr:Fr}{mr:List Int}{aB:List (Nat×Nat)}{av:Int}{γ:Nat}{Q:KF}:∀(as:List (Option Th)) (rest:ak) (rr:List Row) (h:Int),uU rest->rr.length+3*as.length<=99950->
  (∀h' aG,uU aG->h'=h+as.length->Q .next (wJ x aG) (cS fr (d8 as++rr) mr aB h' av γ []))->
  forL (ex G C 59) [fW,bh] AB none (as.map gW) (wJ x rest) (cS fr rr mr aB h av γ []) Q:=by
 intro l0
 induction l0 with
 |nil=>
  intro rest rr h hr hb k;exact k h rest hr (Int.add_zero _).symm
 |cons a as ih=>
  intro rest rr h hr hb k;rw[List.length_cons]at hb;have:=CY a;refine az (List.map_cons) ?_;refine az (dn) ?_;refine Lx hv ht hl hr (ai hb) fun h' aG je e=>?_;refine ih aG (tn a++rr) h' je (by rw[List.length_append];exact aZ hb this) fun h2 gX uB e2=>?_;have:=k h2 gX uB (by rw[e2,e,List.length_cons];omega);rw[show d8 (a::as)++rr=d8 as++(tn a++rr)from List.append_assoc _ _ _]at this;exact this
theorem Iy{C:Cl}(hv:CX C)(ht:pL C)(hl:tj C):r6 (Run C):=by
 intro as fr rr mr aB h av γ Q h2 hr k;show gC (ex G C 60) [.gQ [fW,bh] (.var nq) AB] (wJ (.list (as.map gW)) []) (cS fr rr mr aB h av γ []) (fS Q);refine ju fun F hF=>?_;refine aj (by rw[List.length_map];unfold ah;omega) ?_;refine hF _ _ _ ?_;refine Ly hv ht hl as [] rr h (.inl rfl) (aZ (qk 3 h2) hr) fun h' aG je e=>?_;exact k h' e
noncomputable def aw(c:eS):List Row:=d8 c.args++(cg c.aP++[dE c.pre])
noncomputable def tq(C:Cl):Prop:=∀(l:Int) (c:eS) (fr:Fr) (rr:List Row) (mr:List Int) (aB:List (Nat×Nat)) (h av:Int) (γ:Nat) (Q:KV),c.args.length<=2->rr.length<=99800->
 (∀h',h'=h+1+bA c.aP+c.args.length->Q (.d (.tuple [.int (.ofNat (bA c.aP)),.int (.ofNat c.args.length)])) (cS fr (aw c++rr) mr aB h' av γ []))->C oy [.b 4,.d (j8 l c)] (cS fr rr mr aB h av γ []) Q
theorem CZ(f:Option Th):(cg f).length<=1:=by rcases f with _|_<;>simp[cg]
theorem Ft{C:Cl}(hv:CX C)(hf:uT C)(ha:r6 C):tq (Run C):=by
 intro l c fr rr mr aB h av γ Q h2 hr k;have:=CZ c.aP;refine hv c.pre fr rr mr aB h av γ _ (by omega) fun h' e=>?_;refine hf c.aP fr (dE c.pre::rr) mr aB h' av γ _ (by rw[List.length_cons];exact ai hr) fun yI e2=>?_;refine ha c.args fr (cg c.aP++dE c.pre::rr) mr aB yI av γ _ h2 (by rw[List.length_append,List.length_cons];exact aZ hr this) fun h3 e3=>?_;refine aj (by rw[List.length_map];unfold ah;omega) ?_;have kk:=k h3 (by rw[e3,e2,e]);rw[show aw c++rr=d8 c.args++(cg c.aP++dE c.pre::rr) by unfold aw;simp]at kk;have e4:(.ofNat (c.args.map gW).length:Int)=.ofNat c.args.length:=by rw[List.length_map]
 rw[<-e4]at kk;exact kk
noncomputable def uC(d:D):Prop:=d.showable=true/\d.hasDict=false/\d.depth<=10/\d.shown.length<=5000
noncomputable def aA(d:D):Prop:=d.showable=true/\d.hasDict=false/\d.depth<=20/\d.shown.length<=100000
noncomputable def ku(s:Str):Prop:=uC (.str s)/\s.length<=5000
theorem aA.b{d:D}(h:aA d):d.showable=true/\d.hasDict=false/\d.depth<=20/\d.shown.length<=ah:=⟨h.1,h.2.1,h.2.2.1,Nat.le_trans h.2.2.2 (by unfold ah;omega)⟩
theorem C0:∀(ts:List Str) (k:Nat) (acc:Str),(∀t∈ts,t.length<=5000)->(textFrom k acc ts).length<=acc.length+5002*ts.length:=by
 intro l0
 induction l0 with
 |nil=>
  intro _ _ _;exact Nat.le_refl _
 |cons t r ih=>
  intro k acc h;have h1:=ih (k+1) (acc++(if k>0 then ", " else "" :String)++t) (fun x hx=>h x (List.mem_cons_of_mem _ hx));have h2:=h t List.mem_cons_self;have h3:((if k>0 then ", " else "" :String):Str).length<=2:=by
   split<;>decide
  rw[strLen_append,strLen_append]at h1;refine az (List.length_cons) ?_;have:textFrom k acc (t::r)=textFrom (k+1) (acc++(if k>0 then ", " else "" :String)++t) r:=rfl;refine az (this) ?_;exact jI h1 h2 h3
theorem RC:∀(l:List D),(∀d∈l,uC d)->PyData.showableAll l=true/\PyData.hasDictAll l=false/\PyData.depthAll l<=10/\(∀t∈PyData.shownAll l,t.length<=5000)/\(PyData.shownAll l).length=l.length:=by
 intro l0
 induction l0 with
 |nil=>
  intro _;simp[PyData.showableAll,PyData.hasDictAll,PyData.depthAll,PyData.shownAll]
 |cons d l ih=>
  intro h;refine bc fun bf=>?_;obtain⟨a,b,c,e,f⟩:=ih fun x hx=>h x (List.mem_cons_of_mem _ hx);obtain⟨a',b',c',e'⟩:=h d List.mem_cons_self;refine bf ?_;simp only[PyData.showableAll,PyData.hasDictAll,PyData.depthAll,PyData.shownAll,a,a',b,b',Bool.and_self,Bool.or_self,List.length_cons,f,true_and];refine⟨by omega,?_,trivial⟩;intro t ht;rcases List.mem_cons.mp ht with rfl|ht
  ·exact e'
  ·exact e t ht
theorem yU{l:List D}(hl:l.length<=10)(h:∀d∈l,uC d):aA (.list l):=by
 refine bc fun bf=>?_;obtain⟨a,b,c,e,f⟩:=RC l h;refine bf ?_;refine⟨by simp only[PyData.showable];exact a,by simp only[PyData.hasDict];exact b,by simp only[PyData.depth];exact ai c,?_⟩;simp only[PyData.shown];have:=C0 (PyData.shownAll l) 0 "[" e;unfold listText;rw[strLen_append];have h1:(("[" :String):Str).length=1:=by decide
 have h2:(("]" :String):Str).length=1:=by decide
 omega
theorem mU{l:List Str}(hl:l.length<=10)(h:∀s∈l,ku s):aA (.list (l.map PyData.str)):=
 yU (by rw[List.length_map];exact hl) fun d hd=>by
  obtain⟨s,hs,rfl⟩:=List.mem_map.mp hd;exact(h s hs).1
noncomputable def wK:List Th:=[.obj,.lit (.ofNat 0),.lit (.ofNat 1),.lit (.ofNat 2),.lit (.ofNat 3),.lit (.ofNat 4),.lit (.ofNat 5),.lit (.ofNat 6),.lit (.ofNat 7),.lit (.ofNat 8)]
theorem mn{t:Th}(h:gK t):t∈wK:=by
 induction t using Th.casesOn with
 |obj=>simp[wK]
 |lit k=>
  obtain⟨h0,h9⟩:=h k rfl;rcases nine h0 h9 with rfl|rfl|rfl|rfl|rfl|rfl|rfl|rfl|rfl<;>simp[wK]
noncomputable def bD:Th->Str
 |.obj=>km++(PyData.tuple [.int (.ofNat 1),.str Bi]).shown
 |.lit k=>iR++(PyData.tuple [.int k]).shown
theorem Iz:∀t∈wK,ku (bD t):=by unfold ku uC;decide+kernel
theorem C3{l:Int}(h:l.natAbs<=100000):(PyData.int l).showable=true/\((toString l:String):Str).length<=8:=by
 refine⟨?_,?_⟩
 ·simp only[PyData.showable,decide_eq_true_eq];by_cases h0:l.natAbs=0
  ·rw[h0];decide
  ·rw[Nat.log2_lt h0];exact Nat.lt_of_le_of_lt h (Nat.lt_of_lt_of_le (by decide:100000<2 ^ 17) (Nat.pow_le_pow_right (by decide) (by decide)))
 ·have:=int_text_length_le10 (a:=l) (k:=6) (by decide) (by omega);rw[ofString_length];omega
theorem yV{l:Int}(h:Ln l):aA (.tuple [.int l]):=by
 obtain⟨a,b⟩:=C3 (l:=l) (by have:=h.1;have:=h.2;omega);refine⟨by simp only[PyData.showable,PyData.showableAll,Bool.and_true];exact a,by simp[PyData.hasDict,PyData.hasDictAll],by simp[PyData.depth,PyData.depthAll],?_⟩;simp only[PyData.shown,PyData.shownAll];unfold tupleText;rw[strLen_append,strLen_append];have h1:(("(" :String):Str).length=1:=by decide
 have h2:(Str.join (", " :String) [((toString l:String):Str)]).length=((toString l:String):Str).length:=rfl;have h3:((if[((toString l:String):Str)].length==1 then ",)" else ")" :String):Str).length=2:=by
  show(((",)" :String)):Str).length=2;decide
 exact uK b (iq h1) (iq h2) (iq h3)
noncomputable def aO(w:Str)(parts:List D)(tk:List Str):Str:=(((w++aQ)++(PyData.tuple parts).shown)++aQ)++(PyData.list (tk.map PyData.str)).shown
noncomputable def AD(t:Th):Str:=aO fX [] [bD t]
noncomputable def lG:Str:=nA++(PyData.tuple [.int (.ofNat 0),.str SQ]).shown
noncomputable def ip:Str:=aO da [] [lG]
noncomputable def AE:Str:=aO dc [] [ip]
noncomputable def AF(a:Int):Str:=km++(PyData.tuple [.int a,.str Bi]).shown
theorem Fu:∀t∈wK,ku (AD t):=by unfold ku uC;decide+kernel
theorem t7:ku lG:=by unfold ku uC;decide+kernel
theorem r7:ku ip:=by unfold ku uC;decide+kernel
theorem IA:ku AE:=by unfold ku uC;decide+kernel
theorem IB:ku (AF (.ofNat 0)):=by unfold ku uC;decide+kernel
theorem et{t:Th}(h:gK t):ku (bD t):=Iz t (mn h)
theorem IC{t:Th}(h:gK t):ku (AD t):=Fu t (mn h)
structure Bk where
 told:List Str
 asked:Int
noncomputable def Bk.tell(b:Bk)(x:Str):Bk:=⟨x::b.told,b.asked⟩
noncomputable def Bk.ask(b:Bk):Bk:=⟨b.told,b.asked+Int.ofNat 1⟩
noncomputable def iC(gI a many:Int):Int:=Int.fmod (Int.fdiv gI (Int.ofNat 3 ^ (Int.fmod a (Int.ofNat 12)).toNat)) many
theorem GS{gI a many:Int}(h:0<many):0<=iC gI a many/\iC gI a many<many:=⟨Int.fmod_nonneg_of_pos _ h,Int.fmod_lt_of_pos _ h⟩
structure PF where
 fr:Fr
 rr:List Row
 mr:List Int
 h:Int
 av:Int
 R:List D
 gI:Int
noncomputable def PI(s:Nat)(a gI:Int):aL:=.dict [(qw,.b s),(ro,.d (.int a)),(hI,.d (.int gI))]
noncomputable def Lz(R:List D):aL:=.inst 3 [(bT,.d (.list R)),(oi,.b 1),(lQ,.d (.list [])),(sL,.d .none),(nj,.d (.list []))]
noncomputable def eV(pf:PF)(b0 b1:Bk)(bb bC:Option aL)(γ:Nat)(τ:List aL):St:=
 ⟨[some (mR pf.fr.ns pf.fr.sp pf.fr.line pf.fr.left),some (GP pf.fr.body),some nM,some rZ,some (Fp pf.h pf.av),some (.list [] (pf.rr.map (bV M0))),some (.list [] (pf.mr.map PyData.int)),some (.list [] []),
  none,some (Lz pf.R),some (PI 12 b0.asked pf.gI),some (PI 13 b1.asked pf.gI),some (.list [] (b0.told.map PyData.str)),some (.list [] (b1.told.map PyData.str)),bb,bC,some qi,some oW,some pK,some (.dict [])],τ,γ⟩
noncomputable def MarkC(C:Cl):Prop:=∀(pf:PF) (b0 b1:Bk) (bb bC:Option aL) (γ:Nat) (x:Str) (Q:KV),
 (b0.told.length<=100000->Q (.d (.str x)) (eV pf (b0.tell x) b1 bb bC γ [])->C aU [.b 10,.d (.str x)] (eV pf b0 b1 bb bC γ []) Q)/\
 (b1.told.length<=100000->Q (.d (.str x)) (eV pf b0 (b1.tell x) bb bC γ [])->C aU [.b 11,.d (.str x)] (eV pf b0 b1 bb bC γ []) Q)
theorem eZ{C:Cl}:MarkC (Run C):=by
 intro pf b0 b1 bb bC γ x Q;constructor
 ·intro hl k;refine⟨by show 0+(b0.told.map PyData.str).length<ah;rw[List.length_map];unfold ah;exact ai hl,?_⟩;exact k
 ·intro hl k;refine⟨by show 0+(b1.told.map PyData.str).length<ah;rw[List.length_map];unfold ah;exact ai hl,?_⟩;exact k
theorem VJ{k:Int}(h0:0<=k)(h:k<12):0<Int.ofNat 3 ^ k.toNat/\(Int.ofNat 3 ^ k.toNat).natAbs<=ah:=by
 obtain⟨n,rfl⟩:=Int.eq_ofNat_of_zero_le h0;have h:n<12:=by omega
 show 0<Int.ofNat 3 ^ n/\(Int.ofNat 3 ^ n).natAbs<=ah;have:∀n,n<12->0<Int.ofNat 3 ^ n/\(Int.ofNat 3 ^ n).natAbs<=ah:=by decide+kernel
 exact this n h
noncomputable def mq(C:Cl):Prop:=∀(pf:PF) (b0 b1:Bk) (bb bC:Option aL) (γ:Nat) (many:Int) (Q:KV),0<many->pf.gI.natAbs<=ah->
 (Q (.d (.int (iC pf.gI b0.ask.asked many))) (eV pf b0.ask b1 bb bC γ [])->C gj [.b 10,.d (.int many)] (eV pf b0 b1 bb bC γ []) Q)/\
 (Q (.d (.int (iC pf.gI b1.ask.asked many))) (eV pf b0 b1.ask bb bC γ [])->C gj [.b 11,.d (.int many)] (eV pf b0 b1 bb bC γ []) Q)
theorem r8{C:Cl}:mq (Run C):=by
 intro pf b0 b1 bb bC γ many Q hm ha;have WY:∀a:Int,0<=Int.fmod a (Int.ofNat 12)/\Int.fmod a (Int.ofNat 12)<12:=fun a=>⟨Int.fmod_nonneg_of_pos _ (by decide),Int.fmod_lt_of_pos _ (by decide)⟩;constructor
 ·intro k;have Fv:=WY (b0.asked+Int.ofNat 1);have z0:=Fv.1;have z1:=Fv.2;clear Fv;refine⟨by show 3<=100;decide,?_⟩;refine⟨by decide,?_⟩;refine⟨⟨rfl,z0,z1⟩,?_⟩;have pq:=VJ z0 z1;have p:=pq.1;have q:=pq.2;clear pq;refine⟨⟨p,ha,q⟩,?_⟩;refine⟨hm,?_⟩;exact k
 ·intro k;have Fv:=WY (b1.asked+Int.ofNat 1);have z0:=Fv.1;have z1:=Fv.2;clear Fv;refine⟨by show 3<=100;decide,?_⟩;refine⟨by decide,?_⟩;refine⟨⟨rfl,z0,z1⟩,?_⟩;have pq:=VJ z0 z1;have p:=pq.1;have q:=pq.2;clear pq;refine⟨⟨p,ha,q⟩,?_⟩;refine⟨hm,?_⟩;exact k
section
set_option genCtorIdx false
inductive lg where
 |N (st:List Str)
 |O (ps:List Str) (ol:List D)
noncomputable def lg.bb:lg->Option aL
 |.N st=>some (.list [] (st.map PyData.str))
 |.O ps _=>some (.list (ps.map (fun s=>ag.d (.str s))++[.b 15]) [])
noncomputable def lg.bC:lg->Option aL
 |.N _=>none
 |.O _ ol=>some (.list [] ol)
noncomputable def bS(C:Cl)(pf:PF)(row:D)(sk:lg)(b:Bk)(goal:D)(xJ:lg)(b':Bk):Prop:=∀(b1:Bk) (γ:Nat) (Q:KV),
 (∀gG τ,Q (.d goal) (eV pf b' b1 xJ.bb xJ.bC gG τ))->C sY [.b 10,.d row,.b 14] (eV pf b b1 sk.bb sk.bC γ []) Q
theorem LA{C:Cl}{pf:PF}{x:Int}{sk:lg}{b:Bk}:bS (Run C) pf (.tuple [.str jN,.int x]) sk b (.int x) sk b:=by
 intro b1 γ Q k;exact k γ []
theorem pZ{m:Nat}{tk rest:List Str}(h:m=tk.length):(List.take m ((tk++rest).map PyData.str)).reverse=tk.reverse.map PyData.str:=by
 rw[h,List.map_append,List.take_left' (by rw[List.length_map]),List.map_reverse]
theorem kO{m:Nat}{tk rest:List Str}(h:m=tk.length):List.drop m ((tk++rest).map PyData.str)=rest.map PyData.str:=by
 rw[h,List.map_append,List.drop_left' (by rw[List.length_map])]
theorem p5{w:Str}{p t:D}(h:(w++aQ).length<=100)(hp:aA p)(ht:aA t):(w++aQ).length+p.shown.length<=ah/\((w++aQ)++p.shown).length+aQ.length<=ah/\(((w++aQ)++p.shown)++aQ).length+t.shown.length<=ah:=by
 have h1:=hp.2.2.2;have h2:=ht.2.2.2;have h3:aQ.length=1:=by decide
 rw[strLen_append (w++aQ++p.shown),strLen_append (w++aQ)];unfold ah;exact⟨aZ h h1,jI h h1 (iq h3),uK h h1 h2 (iq h3)⟩
noncomputable def C4:Option Bool->Nat
 |none=>0
 |some _=>1
noncomputable def tryGoal(v m:Int):D:=if v=Int.ofNat 0 then .int m else .none
theorem yW{v m:Int}(h:v=Int.ofNat 0):tryGoal v m=.int m:=if_pos h
theorem wL{v m:Int}(h:¬v=Int.ofNat 0):tryGoal v m=.none:=if_neg h
theorem Fw{C:Cl}(hm:MarkC C){pf:PF}{tk rest:List Str}{b:Bk}(hb:b.told.length<=100000)(jJ:tk.length=1)(kL:(tk++rest).length<=100000)(hs:aA (.list (tk.reverse.map PyData.str)))(hp:aA (.tuple [])):
  bS (Run C) pf (.tuple [.str da,tZ]) (.N (tk++rest)) b .none (.N (aO da [] tk.reverse::rest)) (b.tell (aO da [] tk.reverse)):=by
 intro b1 γ Q k;obtain⟨l1,l2,l3⟩:=p5 (w:=da) (by decide+kernel) hp hs;have q1:1<=((tk++rest).map PyData.str).length:=by rw[List.length_map,List.length_append];exact ai (xC jJ)
 have q2:((tk++rest).map PyData.str).length<=ah:=by rw[List.length_map];unfold ah;omega
 refine⟨⟨q1,q2⟩,?_⟩;rw[pZ]
 rotate_left
 ·exact jJ.symm
 refine⟨⟨q1,q2⟩,?_⟩;rw[kO]
 rotate_left
 ·exact jJ.symm
 refine⟨by decide+kernel,?_⟩;refine⟨hp.b,?_⟩;refine⟨l1,?_⟩;refine⟨l2,?_⟩;refine⟨hs.b,?_⟩;refine⟨l3,?_⟩;refine(hm pf b b1 (lg.N rest).bb none γ (aO da [] tk.reverse) _).1 hb ?_;refine⟨by show 0+(rest.map PyData.str).length<ah;rw[List.length_map];rw[List.length_append]at kL;unfold ah;exact ai kL,?_⟩;exact k γ _
theorem Fx{C:Cl}(hm:MarkC C){pf:PF}{tk rest:List Str}{b:Bk}(hb:b.told.length<=100000)(jJ:tk.length=1)(kL:(tk++rest).length<=100000)(hs:aA (.list (tk.reverse.map PyData.str)))(hp:aA (.tuple [])):
  bS (Run C) pf (.tuple [.str fX]) (.N (tk++rest)) b .none (.N (aO fX [] tk.reverse::rest)) (b.tell (aO fX [] tk.reverse)):=by
 intro b1 γ Q k;obtain⟨l1,l2,l3⟩:=p5 (w:=fX) (by decide+kernel) hp hs;have q1:1<=((tk++rest).map PyData.str).length:=by rw[List.length_map,List.length_append];exact ai (xC jJ)
 have q2:((tk++rest).map PyData.str).length<=ah:=by rw[List.length_map];unfold ah;omega
 refine⟨⟨q1,q2⟩,?_⟩;rw[pZ]
 rotate_left
 ·exact jJ.symm
 refine⟨⟨q1,q2⟩,?_⟩;rw[kO]
 rotate_left
 ·exact jJ.symm
 refine⟨by decide,?_⟩;refine⟨⟨Nat.le_of_ble_eq_true rfl,Nat.le_of_ble_eq_true rfl,Nat.le_of_ble_eq_true rfl⟩,?_⟩;refine⟨by decide+kernel,?_⟩;refine⟨hp.b,?_⟩;refine⟨l1,?_⟩;refine⟨l2,?_⟩;refine⟨hs.b,?_⟩;refine⟨l3,?_⟩;refine(hm pf b b1 (lg.N rest).bb none γ (aO fX [] tk.reverse) _).1 hb ?_;refine⟨by show 0+(rest.map PyData.str).length<ah;rw[List.length_map];rw[List.length_append]at kL;unfold ah;exact ai kL,?_⟩;exact k γ _
theorem ym{C:Cl}(hm:MarkC C){pf:PF}{tk rest:List Str}{b:Bk}(hb:b.told.length<=100000)(jJ:tk.length=1)(kL:(tk++rest).length<=100000)(hs:aA (.list (tk.reverse.map PyData.str)))(hp:aA (.tuple [])):
  bS (Run C) pf (.tuple [.str dc]) (.N (tk++rest)) b .none (.N (aO dc [] tk.reverse::rest)) (b.tell (aO dc [] tk.reverse)):=by
 intro b1 γ Q k;obtain⟨l1,l2,l3⟩:=p5 (w:=dc) (by decide+kernel) hp hs;have q1:1<=((tk++rest).map PyData.str).length:=by rw[List.length_map,List.length_append];exact ai (xC jJ)
 have q2:((tk++rest).map PyData.str).length<=ah:=by rw[List.length_map];unfold ah;omega
 refine⟨⟨q1,q2⟩,?_⟩;rw[pZ]
 rotate_left
 ·exact jJ.symm
 refine⟨⟨q1,q2⟩,?_⟩;rw[kO]
 rotate_left
 ·exact jJ.symm
 refine⟨by decide,?_⟩;refine⟨⟨Nat.le_of_ble_eq_true rfl,Nat.le_of_ble_eq_true rfl,Nat.le_of_ble_eq_true rfl⟩,?_⟩;refine⟨by decide+kernel,?_⟩;refine⟨hp.b,?_⟩;refine⟨l1,?_⟩;refine⟨l2,?_⟩;refine⟨hs.b,?_⟩;refine⟨l3,?_⟩;refine(hm pf b b1 (lg.N rest).bb none γ (aO dc [] tk.reverse) _).1 hb ?_;refine⟨by show 0+(rest.map PyData.str).length<ah;rw[List.length_map];rw[List.length_append]at kL;unfold ah;exact ai kL,?_⟩;exact k γ _
theorem LB{C:Cl}(hm:MarkC C){pf:PF}{l:Int}{tk rest:List Str}{b:Bk}(hb:b.told.length<=100000)(jJ:tk.length=0)(kL:(tk++rest).length<=100000)(hs:aA (.list (tk.reverse.map PyData.str)))(hp:aA (.tuple [.int l])):
  bS (Run C) pf (.tuple [.str nk,.int l]) (.N (tk++rest)) b .none (.N rest) (b.tell (aO nk [.int l] tk.reverse)):=by
 intro b1 γ Q k;obtain⟨l1,l2,l3⟩:=p5 (w:=nk) (by decide+kernel) hp hs;have q1:0<=((tk++rest).map PyData.str).length:=by rw[List.length_map,List.length_append];omega
 have q2:((tk++rest).map PyData.str).length<=ah:=by rw[List.length_map];unfold ah;omega
 refine⟨⟨q1,q2⟩,?_⟩;rw[pZ]
 rotate_left
 ·exact jJ.symm
 refine⟨⟨q1,q2⟩,?_⟩;rw[kO]
 rotate_left
 ·exact jJ.symm
 refine⟨by decide,?_⟩;refine⟨⟨Nat.le_of_ble_eq_true rfl,Nat.le_of_ble_eq_true rfl,Nat.le_of_ble_eq_true rfl⟩,?_⟩;refine⟨by decide+kernel,?_⟩;refine⟨hp.b,?_⟩;refine⟨l1,?_⟩;refine⟨l2,?_⟩;refine⟨hs.b,?_⟩;refine⟨l3,?_⟩;refine(hm pf b b1 (lg.N rest).bb none γ (aO nk [.int l] tk.reverse) _).1 hb ?_;exact k γ _
theorem ID{C:Cl}(hm:MarkC C){pf:PF}{tk rest:List Str}{b:Bk}(hb:b.told.length<=100000)(jJ:tk.length=0)(kL:(tk++rest).length<=100000)(hs:aA (.list (tk.reverse.map PyData.str)))(hp:aA (.tuple [.str aI])):
  bS (Run C) pf (.tuple [.str gp,.str aI]) (.N (tk++rest)) b .none (.N rest) (b.tell (aO gp [.str aI] tk.reverse)):=by
 intro b1 γ Q k;obtain⟨l1,l2,l3⟩:=p5 (w:=gp) (by decide+kernel) hp hs;have q1:0<=((tk++rest).map PyData.str).length:=by rw[List.length_map,List.length_append];omega
 have q2:((tk++rest).map PyData.str).length<=ah:=by rw[List.length_map];unfold ah;omega
 refine⟨⟨q1,q2⟩,?_⟩;rw[pZ]
 rotate_left
 ·exact jJ.symm
 refine⟨⟨q1,q2⟩,?_⟩;rw[kO]
 rotate_left
 ·exact jJ.symm
 refine⟨by decide,?_⟩;refine⟨⟨Nat.le_of_ble_eq_true rfl,Nat.le_of_ble_eq_true rfl,Nat.le_of_ble_eq_true rfl⟩,?_⟩;refine⟨by decide+kernel,?_⟩;refine⟨hp.b,?_⟩;refine⟨l1,?_⟩;refine⟨l2,?_⟩;refine⟨hs.b,?_⟩;refine⟨l3,?_⟩;refine(hm pf b b1 (lg.N rest).bb none γ (aO gp [.str aI] tk.reverse) _).1 hb ?_;exact k γ _
theorem NY{C:Cl}(hm:MarkC C){pf:PF}{tk rest:List Str}{b:Bk}(hb:b.told.length<=100000)(jJ:tk.length=0)(kL:(tk++rest).length<=100000)(hs:aA (.list (tk.reverse.map PyData.str)))(hp:aA (.tuple [])):
  bS (Run C) pf (.tuple [.str q8,.list [],.list []]) (.N (tk++rest)) b .none (.N rest) (b.tell (aO q8 [] tk.reverse)):=by
 intro b1 γ Q k;obtain⟨l1,l2,l3⟩:=p5 (w:=q8) (by decide+kernel) hp hs;have q1:0<=((tk++rest).map PyData.str).length:=by rw[List.length_map,List.length_append];omega
 have q2:((tk++rest).map PyData.str).length<=ah:=by rw[List.length_map];unfold ah;omega
 refine⟨⟨q1,q2⟩,?_⟩;rw[pZ]
 rotate_left
 ·exact jJ.symm
 refine⟨⟨q1,q2⟩,?_⟩;rw[kO]
 rotate_left
 ·exact jJ.symm
 refine⟨by decide+kernel,?_⟩;refine⟨hp.b,?_⟩;refine⟨l1,?_⟩;refine⟨l2,?_⟩;refine⟨hs.b,?_⟩;refine⟨l3,?_⟩;refine(hm pf b b1 (lg.N rest).bb none γ (aO q8 [] tk.reverse) _).1 hb ?_;exact k γ _
theorem AG{C:Cl}(hm:MarkC C){pf:PF}{tk rest:List Str}{b:Bk}(hb:b.told.length<=100000)(jJ:tk.length=0)(kL:(tk++rest).length<=100000)(hs:aA (.list (tk.reverse.map PyData.str)))(hp:aA (.tuple [])):
  bS (Run C) pf (.tuple [.str fN]) (.N (tk++rest)) b .none (.N rest) (b.tell (aO fN [] tk.reverse)):=by
 intro b1 γ Q k;obtain⟨l1,l2,l3⟩:=p5 (w:=fN) (by decide+kernel) hp hs;have q1:0<=((tk++rest).map PyData.str).length:=by rw[List.length_map,List.length_append];omega
 have q2:((tk++rest).map PyData.str).length<=ah:=by rw[List.length_map];unfold ah;omega
 refine⟨⟨q1,q2⟩,?_⟩;rw[pZ]
 rotate_left
 ·exact jJ.symm
 refine⟨⟨q1,q2⟩,?_⟩;rw[kO]
 rotate_left
 ·exact jJ.symm
 refine⟨by decide,?_⟩;refine⟨⟨Nat.le_of_ble_eq_true rfl,Nat.le_of_ble_eq_true rfl,Nat.le_of_ble_eq_true rfl⟩,?_⟩;refine⟨by decide+kernel,?_⟩;refine⟨hp.b,?_⟩;refine⟨l1,?_⟩;refine⟨l2,?_⟩;refine⟨hs.b,?_⟩;refine⟨l3,?_⟩;refine(hm pf b b1 (lg.N rest).bb none γ (aO fN [] tk.reverse) _).1 hb ?_;exact k γ _
theorem yn{C:Cl}(hm:MarkC C){pf:PF}{tk rest:List Str}{b:Bk}(hb:b.told.length<=100000)(jJ:tk.length=0)(kL:(tk++rest).length<=100000)(hs:aA (.list (tk.reverse.map PyData.str)))(hp:aA (.tuple [])):
  bS (Run C) pf (.tuple [.str gi]) (.N (tk++rest)) b .none (.N rest) (b.tell (aO gi [] tk.reverse)):=by
 intro b1 γ Q k;obtain⟨l1,l2,l3⟩:=p5 (w:=gi) (by decide+kernel) hp hs;have q1:0<=((tk++rest).map PyData.str).length:=by rw[List.length_map,List.length_append];omega
 have q2:((tk++rest).map PyData.str).length<=ah:=by rw[List.length_map];unfold ah;omega
 refine⟨⟨q1,q2⟩,?_⟩;rw[pZ]
 rotate_left
 ·exact jJ.symm
 refine⟨⟨q1,q2⟩,?_⟩;rw[kO]
 rotate_left
 ·exact jJ.symm
 refine⟨by decide,?_⟩;refine⟨⟨Nat.le_of_ble_eq_true rfl,Nat.le_of_ble_eq_true rfl,Nat.le_of_ble_eq_true rfl⟩,?_⟩;refine⟨by decide+kernel,?_⟩;refine⟨hp.b,?_⟩;refine⟨l1,?_⟩;refine⟨l2,?_⟩;refine⟨hs.b,?_⟩;refine⟨l3,?_⟩;refine(hm pf b b1 (lg.N rest).bb none γ (aO gi [] tk.reverse) _).1 hb ?_;exact k γ _
theorem Fy{C:Cl}(hm:MarkC C){pf:PF}{tk rest:List Str}{b:Bk}(hb:b.told.length<=100000)(jJ:tk.length=0)(kL:(tk++rest).length<=100000)(hs:aA (.list (tk.reverse.map PyData.str)))(hp:aA (.tuple [])):
  bS (Run C) pf (.tuple [.str iE]) (.N (tk++rest)) b .none (.N rest) (b.tell (aO iE [] tk.reverse)):=by
 intro b1 γ Q k;obtain⟨l1,l2,l3⟩:=p5 (w:=iE) (by decide+kernel) hp hs;have q1:0<=((tk++rest).map PyData.str).length:=by rw[List.length_map,List.length_append];omega
 have q2:((tk++rest).map PyData.str).length<=ah:=by rw[List.length_map];unfold ah;omega
 refine⟨⟨q1,q2⟩,?_⟩;rw[pZ]
 rotate_left
 ·exact jJ.symm
 refine⟨⟨q1,q2⟩,?_⟩;rw[kO]
 rotate_left
 ·exact jJ.symm
 refine⟨by decide,?_⟩;refine⟨⟨Nat.le_of_ble_eq_true rfl,Nat.le_of_ble_eq_true rfl,Nat.le_of_ble_eq_true rfl⟩,?_⟩;refine⟨by decide+kernel,?_⟩;refine⟨hp.b,?_⟩;refine⟨l1,?_⟩;refine⟨l2,?_⟩;refine⟨hs.b,?_⟩;refine⟨l3,?_⟩;refine(hm pf b b1 (lg.N rest).bb none γ (aO iE [] tk.reverse) _).1 hb ?_;exact k γ _
theorem yo{C:Cl}(hm:MarkC C){pf:PF}{e:Str}{f c:Nat}{tk rest:List Str}{b:Bk}(hb:b.told.length<=100000)(jJ:tk.length=1+f+c)(kL:(tk++rest).length<=100000)(hs:aA (.list (tk.reverse.map PyData.str)))(hp:aA (.tuple [.str e,.int (.ofNat f),.int (.ofNat c)])):
  bS (Run C) pf (.tuple [.str cu,.str e,.int (.ofNat f),.int (.ofNat c)]) (.N (tk++rest)) b .none (.N rest) (b.tell (aO cu [.str e,.int (.ofNat f),.int (.ofNat c)] tk.reverse)):=by
 intro b1 γ Q k;obtain⟨l1,l2,l3⟩:=p5 (w:=cu) (by decide+kernel) hp hs;have q1:1+f+c<=((tk++rest).map PyData.str).length:=by rw[List.length_map,List.length_append];exact ai (xC jJ)
 have q2:((tk++rest).map PyData.str).length<=ah:=by rw[List.length_map];unfold ah;omega
 refine⟨⟨q1,q2⟩,?_⟩;rw[pZ]
 rotate_left
 ·exact jJ.symm
 refine⟨⟨q1,q2⟩,?_⟩;rw[kO]
 rotate_left
 ·exact jJ.symm
 refine⟨by decide,?_⟩;refine⟨⟨Nat.le_of_ble_eq_true rfl,Nat.le_of_ble_eq_true rfl,Nat.le_of_ble_eq_true rfl⟩,?_⟩;refine⟨by decide+kernel,?_⟩;refine⟨hp.b,?_⟩;refine⟨l1,?_⟩;refine⟨l2,?_⟩;refine⟨hs.b,?_⟩;refine⟨l3,?_⟩;refine(hm pf b b1 (lg.N rest).bb none γ (aO cu [.str e,.int (.ofNat f),.int (.ofNat c)] tk.reverse) _).1 hb ?_;exact k γ _
theorem Fz{C:Cl}(hm:MarkC C){pf:PF}{e:Str}{f:Nat}{fm:D}{tk rest:List Str}{b:Bk}(hb:b.told.length<=100000)(jJ:tk.length=f)(kL:(tk++rest).length<=100000)(hs:aA (.list (tk.reverse.map PyData.str)))(hp:aA (.tuple [.str e,.int (.ofNat f),fm])):
  bS (Run C) pf (.tuple [.str bw,.str e,.int (.ofNat f),fm]) (.N (tk++rest)) b .none (.N rest) (b.tell (aO bw [.str e,.int (.ofNat f),fm] tk.reverse)):=by
 intro b1 γ Q k;obtain⟨l1,l2,l3⟩:=p5 (w:=bw) (by decide+kernel) hp hs;have q1:f<=((tk++rest).map PyData.str).length:=by rw[List.length_map,List.length_append];exact ai (xC jJ)
 have q2:((tk++rest).map PyData.str).length<=ah:=by rw[List.length_map];unfold ah;omega
 refine⟨⟨q1,q2⟩,?_⟩;rw[pZ]
 rotate_left
 ·exact jJ.symm
 refine⟨⟨q1,q2⟩,?_⟩;rw[kO]
 rotate_left
 ·exact jJ.symm
 refine⟨by decide,?_⟩;refine⟨⟨Nat.le_of_ble_eq_true rfl,Nat.le_of_ble_eq_true rfl,Nat.le_of_ble_eq_true rfl⟩,?_⟩;refine⟨by decide+kernel,?_⟩;refine⟨hp.b,?_⟩;refine⟨l1,?_⟩;refine⟨l2,?_⟩;refine⟨hs.b,?_⟩;refine⟨l3,?_⟩;refine(hm pf b b1 (lg.N rest).bb none γ (aO bw [.str e,.int (.ofNat f),fm] tk.reverse) _).1 hb ?_;exact k γ _
theorem uD{C:Cl}(hm:MarkC C){pf:PF}{fm:D}{tk rest:List Str}{b:Bk}(hb:b.told.length<=100000)(jJ:tk.length=0)(kL:(tk++rest).length<=100000)(hs:aA (.list (tk.reverse.map PyData.str)))(hp:aA (.tuple [fm])):
  bS (Run C) pf (.tuple [.str cO,fm]) (.N (tk++rest)) b .none (.N rest) (b.tell (aO cO [fm] tk.reverse)):=by
 intro b1 γ Q k;obtain⟨l1,l2,l3⟩:=p5 (w:=cO) (by decide+kernel) hp hs;have q1:0<=((tk++rest).map PyData.str).length:=by rw[List.length_map,List.length_append];omega
 have q2:((tk++rest).map PyData.str).length<=ah:=by rw[List.length_map];unfold ah;omega
 refine⟨⟨q1,q2⟩,?_⟩;rw[pZ]
 rotate_left
 ·exact jJ.symm
 refine⟨⟨q1,q2⟩,?_⟩;rw[kO]
 rotate_left
 ·exact jJ.symm
 refine⟨by decide,?_⟩;refine⟨⟨Nat.le_of_ble_eq_true rfl,Nat.le_of_ble_eq_true rfl,Nat.le_of_ble_eq_true rfl⟩,?_⟩;refine⟨by decide+kernel,?_⟩;refine⟨hp.b,?_⟩;refine⟨l1,?_⟩;refine⟨l2,?_⟩;refine⟨hs.b,?_⟩;refine⟨l3,?_⟩;refine(hm pf b b1 (lg.N rest).bb none γ (aO cO [fm] tk.reverse) _).1 hb ?_;exact k γ _
theorem IE{C:Cl}(hm:MarkC C){pf:PF}{u:Bool}{tk rest:List Str}{b:Bk}(hb:b.told.length<=100000)(jJ:tk.length=1)(kL:(tk++rest).length<=100000)(hs:aA (.list (tk.reverse.map PyData.str)))(hp:aA (.tuple [.bool u])):
  bS (Run C) pf (.tuple [.str bE,.bool u]) (.N (tk++rest)) b .none (.N rest) (b.tell (aO bE [.bool u] tk.reverse)):=by
 intro b1 γ Q k;obtain⟨l1,l2,l3⟩:=p5 (w:=bE) (by decide+kernel) hp hs;have q1:1<=((tk++rest).map PyData.str).length:=by rw[List.length_map,List.length_append];omega
 have q2:((tk++rest).map PyData.str).length<=ah:=by rw[List.length_map];unfold ah;omega
 refine⟨⟨q1,q2⟩,?_⟩;rw[pZ]
 rotate_left
 ·exact jJ.symm
 refine⟨⟨q1,q2⟩,?_⟩;rw[kO]
 rotate_left
 ·exact jJ.symm
 refine⟨by decide,?_⟩;refine⟨⟨Nat.le_of_ble_eq_true rfl,Nat.le_of_ble_eq_true rfl,Nat.le_of_ble_eq_true rfl⟩,?_⟩;refine⟨by decide+kernel,?_⟩;refine⟨hp.b,?_⟩;refine⟨l1,?_⟩;refine⟨l2,?_⟩;refine⟨hs.b,?_⟩;refine⟨l3,?_⟩;refine(hm pf b b1 (lg.N rest).bb none γ (aO bE [.bool u] tk.reverse) _).1 hb ?_;exact k γ _
theorem IF{C:Cl}(hm:MarkC C){pf:PF}{tk rest:List Str}{b:Bk}(hb:b.told.length<=100000)(jJ:tk.length=1)(kL:(tk++rest).length<=100000)(hs:aA (.list (tk.reverse.map PyData.str)))(hp:aA (.tuple [])):
  bS (Run C) pf (.tuple [.str d6]) (.N (tk++rest)) b .none (.N rest) (b.tell (aO d6 [] tk.reverse)):=by
 intro b1 γ Q k;obtain⟨l1,l2,l3⟩:=p5 (w:=d6) (by decide+kernel) hp hs;have q1:1<=((tk++rest).map PyData.str).length:=by rw[List.length_map,List.length_append];omega
 have q2:((tk++rest).map PyData.str).length<=ah:=by rw[List.length_map];unfold ah;omega
 refine⟨⟨q1,q2⟩,?_⟩;rw[pZ]
 rotate_left
 ·exact jJ.symm
 refine⟨⟨q1,q2⟩,?_⟩;rw[kO]
 rotate_left
 ·exact jJ.symm
 refine⟨by decide,?_⟩;refine⟨⟨Nat.le_of_ble_eq_true rfl,Nat.le_of_ble_eq_true rfl,Nat.le_of_ble_eq_true rfl⟩,?_⟩;refine⟨by decide+kernel,?_⟩;refine⟨hp.b,?_⟩;refine⟨l1,?_⟩;refine⟨l2,?_⟩;refine⟨hs.b,?_⟩;refine⟨l3,?_⟩;refine(hm pf b b1 (lg.N rest).bb none γ (aO d6 [] tk.reverse) _).1 hb ?_;exact k γ _
theorem C8{C:Cl}(hm:MarkC C){pf:PF}{e:Str}{f p:Nat}{u:Bool}{tk rest:List Str}{b:Bk}(hb:b.told.length<=100000)(jJ:tk.length=f+p)(kL:(tk++rest).length<=100000)(hs:aA (.list (tk.reverse.map PyData.str)))(hp:aA (.tuple [.str e,.int (.ofNat f),.int (.ofNat p),.bool u])):
  bS (Run C) pf (.tuple [.str cz,.str e,.int (.ofNat f),.int (.ofNat p),.bool u]) (.N (tk++rest)) b .none (.N rest) (b.tell (aO cz [.str e,.int (.ofNat f),.int (.ofNat p),.bool u] tk.reverse)):=by
 intro b1 γ Q k;obtain⟨l1,l2,l3⟩:=p5 (w:=cz) (by decide+kernel) hp hs;have q1:f+p<=((tk++rest).map PyData.str).length:=by rw[List.length_map,List.length_append];exact ai (xC jJ)
 have q2:((tk++rest).map PyData.str).length<=ah:=by rw[List.length_map];unfold ah;omega
 conv=>whnf
 refine⟨⟨q1,q2⟩,?_⟩;rw[pZ]
 rotate_left
 ·exact jJ.symm
 refine⟨⟨q1,q2⟩,?_⟩;rw[kO]
 rotate_left
 ·exact jJ.symm
 refine⟨by decide,?_⟩;refine⟨⟨Nat.le_of_ble_eq_true rfl,Nat.le_of_ble_eq_true rfl,Nat.le_of_ble_eq_true rfl⟩,?_⟩;refine⟨by decide+kernel,?_⟩;refine⟨hp.b,?_⟩;refine⟨l1,?_⟩;refine⟨l2,?_⟩;refine⟨hs.b,?_⟩;refine⟨l3,?_⟩;refine(hm pf b b1 (lg.N rest).bb none γ (aO cz [.str e,.int (.ofNat f),.int (.ofNat p),.bool u] tk.reverse) _).1 hb ?_;exact k γ _
theorem C9{C:Cl}(hm:MarkC C)(hr:mq C){pf:PF}{e:Str}{f c:Nat}{how:Option Bool}{m:Int}{tk rest:List Str}{b:Bk}(hb:b.told.length<=100000)(jJ:tk.length=1+f+c+C4 how)(kL:(tk++rest).length<=100000)(hs:aA (.list (tk.reverse.map PyData.str)))(hp:aA (.tuple [.str e,.int (.ofNat f),.int (.ofNat c),.str (qL how)]))(ha:pf.gI.natAbs<=ah):
  bS (Run C) pf (.tuple [.str dK,.str e,.int (.ofNat f),.int (.ofNat c),.str (qL how),.int m]) (.N (tk++rest)) b (tryGoal (iC pf.gI b.ask.asked (Int.ofNat 2)) m) (.N rest) (b.tell (aO dK [.str e,.int (.ofNat f),.int (.ofNat c),.str (qL how)] tk.reverse)).ask:=by
 intro b1 γ Q k;obtain⟨l1,l2,l3⟩:=p5 (w:=dK) (by decide+kernel) hp hs;have q1:1+f+c+C4 how<=((tk++rest).map PyData.str).length:=by rw[List.length_map,List.length_append];exact ai (xC jJ)
 have q2:((tk++rest).map PyData.str).length<=ah:=by rw[List.length_map];unfold ah;omega
 rcases how with _|_|_
 all_goals
  conv=>whnf
  refine⟨⟨q1,q2⟩,?_⟩;rw[pZ]
  rotate_left
  ·exact jJ.symm
  refine⟨⟨q1,q2⟩,?_⟩;rw[kO]
  rotate_left
  ·exact jJ.symm
  refine⟨by decide,?_⟩;refine⟨by decide,?_⟩;refine⟨⟨Nat.le_of_ble_eq_true rfl,Nat.le_of_ble_eq_true rfl,Nat.le_of_ble_eq_true rfl,Nat.le_of_ble_eq_true rfl⟩,?_⟩;refine⟨by decide+kernel,?_⟩;refine⟨hp.b,?_⟩;refine⟨l1,?_⟩;refine⟨l2,?_⟩;refine⟨hs.b,?_⟩;refine⟨l3,?_⟩
  conv=>whnf
  refine(hm pf b b1 (lg.N rest).bb none γ (aO dK [.str e,.int (.ofNat f),.int (.ofNat c),.str _] tk.reverse) _).1 hb ?_
  conv=>whnf
  refine(hr pf (b.tell (aO dK [.str e,.int (.ofNat f),.int (.ofNat c),.str _] tk.reverse)) b1 (lg.N rest).bb none γ (Int.ofNat 2) _ (by decide) ha).1 ?_
  conv=>whnf
  split
  ·rename_i hd;have hz:iC pf.gI b.ask.asked (Int.ofNat 2)=Int.ofNat 0:=of_decide_eq_true hd;rw[yW hz]at k;exact k γ _
  ·rename_i hd;have hz:¬iC pf.gI b.ask.asked (Int.ofNat 2)=Int.ofNat 0:=of_decide_eq_false hd;rw[wL hz]at k;exact k γ _
end
noncomputable def Zs(t:Th):D:=bV M0 (dE t)
theorem GU:iG++aQ=km:=by decide+kernel
theorem yX:j4++aQ=iR:=by decide+kernel
theorem IG:ny++aQ=nA:=by decide+kernel
theorem mV:∀t∈wK,aA (match t with|.obj=>.tuple [.int (.ofNat 1),.str Bi]|.lit k=>.tuple [.int k]):=by unfold aA;decide+kernel
theorem yY:aA (.tuple [.int (.ofNat 0),.str Bi]):=by unfold aA;decide+kernel
theorem wM:aA (.tuple [.int (.ofNat 0),.str SQ]):=by unfold aA;decide+kernel
theorem jx:aA (.tuple []):=by unfold aA;decide+kernel
theorem FA{w:Str}{p:D}(h:(w++aQ).length<=100)(hp:aA p):(w++aQ).length+p.shown.length<=ah:=by
 have:=hp.2.2.2;unfold ah;exact aZ h this
theorem Dc{C:Cl}{pf:PF}{a:Int}{s:Str}{st:List Str}{b:Bk}(hp:aA (.tuple [.int a,.str s]))(kL:st.length<=100000):
  bS (Run C) pf (.tuple [.str iG,.int a,.str s]) (.N st) b .none (.N ((km++(PyData.tuple [.int a,.str s]).shown)::st)) b:=by
 intro b1 γ Q k;have l1:=FA (w:=iG) (by decide+kernel) hp;rw[<-GU]at k;refine⟨by decide+kernel,?_⟩;refine⟨by decide,?_⟩;refine⟨⟨Nat.le_of_ble_eq_true rfl,Nat.le_of_ble_eq_true rfl,Nat.le_of_ble_eq_true rfl⟩,?_⟩;refine⟨hp.b,?_⟩;refine⟨l1,?_⟩;refine⟨by show 0+(st.map PyData.str).length<ah;rw[List.length_map];unfold ah;exact ai kL,?_⟩;exact k γ _
theorem FC{C:Cl}{pf:PF}{a:Int}{st:List Str}{b:Bk}(hp:aA (.tuple [.int a]))(kL:st.length<=100000):
  bS (Run C) pf (.tuple [.str j4,.int a]) (.N st) b .none (.N ((iR++(PyData.tuple [.int a]).shown)::st)) b:=by
 intro b1 γ Q k;have l1:=FA (w:=j4) (by decide+kernel) hp;rw[<-yX]at k;refine⟨by decide+kernel,?_⟩;refine⟨by decide,?_⟩;refine⟨⟨Nat.le_of_ble_eq_true rfl,Nat.le_of_ble_eq_true rfl,Nat.le_of_ble_eq_true rfl⟩,?_⟩;refine⟨hp.b,?_⟩;refine⟨l1,?_⟩;refine⟨by show 0+(st.map PyData.str).length<ah;rw[List.length_map];unfold ah;exact ai kL,?_⟩;exact k γ _
theorem FD{C:Cl}{pf:PF}{st:List Str}{b:Bk}(kL:st.length<=100000):
  bS (Run C) pf (.tuple [.str ny,.int (.ofNat 0),.str SQ]) (.N st) b .none (.N (lG::st)) b:=by
 intro b1 γ Q k;have hp:=wM;have l1:=FA (w:=ny) (by decide+kernel) hp;unfold lG at k;rw[<-IG]at k;refine⟨by decide+kernel,?_⟩;refine⟨by decide,?_⟩;refine⟨⟨Nat.le_of_ble_eq_true rfl,Nat.le_of_ble_eq_true rfl,Nat.le_of_ble_eq_true rfl⟩,?_⟩;refine⟨hp.b,?_⟩;refine⟨l1,?_⟩;refine⟨by show 0+(st.map PyData.str).length<ah;rw[List.length_map];unfold ah;exact ai kL,?_⟩;exact k γ _
theorem LC{C:Cl}{pf:PF}{a:Int}{s:Str}{ol:List D}{b:Bk}(hp:aA (.tuple [.int a,.str s])):
  bS (Run C) pf (.tuple [.str iG,.int a,.str s]) (.O [] ol) b .none (.O [(km++(PyData.tuple [.int a,.str s]).shown)] ol) b:=by
 intro b1 γ Q k;have l1:=FA (w:=iG) (by decide+kernel) hp;rw[<-GU]at k;refine⟨by decide+kernel,?_⟩;refine⟨by decide,?_⟩;refine⟨⟨Nat.le_of_ble_eq_true rfl,Nat.le_of_ble_eq_true rfl,Nat.le_of_ble_eq_true rfl⟩,?_⟩;refine⟨hp.b,?_⟩;refine⟨l1,?_⟩;refine⟨by decide,?_⟩;exact k γ _
theorem FE{C:Cl}{pf:PF}{a:Int}{ol:List D}{b:Bk}(hp:aA (.tuple [.int a])):
  bS (Run C) pf (.tuple [.str j4,.int a]) (.O [] ol) b .none (.O [(iR++(PyData.tuple [.int a]).shown)] ol) b:=by
 intro b1 γ Q k;have l1:=FA (w:=j4) (by decide+kernel) hp;rw[<-yX]at k;refine⟨by decide+kernel,?_⟩;refine⟨by decide,?_⟩;refine⟨⟨Nat.le_of_ble_eq_true rfl,Nat.le_of_ble_eq_true rfl,Nat.le_of_ble_eq_true rfl⟩,?_⟩;refine⟨hp.b,?_⟩;refine⟨l1,?_⟩;refine⟨by decide,?_⟩;exact k γ _
theorem NZ{C:Cl}{pf:PF}{t:Th}{st:List Str}{b:Bk}(h:gK t)(kL:st.length<=100000):
  bS (Run C) pf (Zs t) (.N st) b .none (.N (bD t::st)) b:=by
 induction t using Th.casesOn with
 |obj=>exact Dc (mV _ (mn h)) kL
 |lit k=>exact FC (mV _ (mn h)) kL
theorem N0{C:Cl}{pf:PF}{t:Th}{ol:List D}{b:Bk}(h:gK t):
  bS (Run C) pf (Zs t) (.O [] ol) b .none (.O [bD t] ol) b:=by
 induction t using Th.casesOn with
 |obj=>exact LC (mV _ (mn h))
 |lit k=>exact FE (mV _ (mn h))
theorem LD{C:Cl}{pf:PF}{b:Bk}:bS (Run C) pf (.tuple [.str qs]) (.N []) b .none (.O [] []) b:=by
 intro b1 γ Q k;refine⟨by decide,?_⟩;exact k _ _
theorem t8{C:Cl}{pf:PF}{m:Int}{g:Bool}{ol:List D}{b:Bk}:
  bS (Run C) pf (.tuple [.str mJ,.int m]) (.O [bD (.lit (match g with|false=>.ofNat 0|true=>.ofNat 1))] ol) b (match g with|false=>.int m|true=>.none) (.O [] ol) b:=by
 intro b1 γ Q k;rcases g with _|_
 ·conv=>whnf
  exact k γ _
 ·conv=>whnf
  exact k γ _
noncomputable def iT(w:Str)(parts:List D)(VK:Str):Str:=(((w++aQ)++(PyData.tuple parts).shown)++aQ)++VK
noncomputable def lH(i:Nat)(x:Str):D:=.tuple [.int (.ofNat i),.str x]
noncomputable def oX(C:Cl)(pf:PF)(row:D)(sk:lg)(b:Bk)(goal:D)(xJ:lg)(b':Bk):Prop:=∀(b1:Bk) (γ:Nat) (Q:KV),
 (∀gG τ,Q (.d goal) (eV pf b' b1 xJ.bb xJ.bC gG τ))->C oA [.b 10,.d row,.b 14] (eV pf b b1 sk.bb sk.bC γ []) Q
theorem N1{w:Str}{p:D}{x:Str}(h:(w++aQ).length<=100)(hp:aA p)(hx:x.length<=5000):(w++aQ).length+p.shown.length<=ah/\((w++aQ)++p.shown).length+aQ.length<=ah/\(((w++aQ)++p.shown)++aQ).length+x.length<=ah:=by
 have h1:=hp.2.2.2;have h3:aQ.length=1:=by decide
 rw[strLen_append (w++aQ++p.shown),strLen_append (w++aQ)];unfold ah;exact⟨aZ h h1,jI h h1 (iq h3),uK h hx h1 (iq h3)⟩
theorem VL{C:Cl}{pf:PF}{i:Nat}{e:Str}{ol:List D}{b:Bk}(hp:aA (.tuple [.str e,.int (.ofNat 0)]))(DM:ol.length<=1000):
  oX (Run C) pf (.tuple [.str bN,.int (.ofNat i),.str e,.int (.ofNat 0)]) (.O [] ol) b .none (.O [] (lH i (iT bN [.str e,.int (.ofNat 0)] aI)::ol)) b:=by
 intro b1 γ Q k;obtain⟨l1,l2,l3⟩:=N1 (w:=bN) (x:=aI) (by decide+kernel) hp (by decide);refine⟨by decide+kernel,?_⟩;refine⟨by decide,?_⟩;refine⟨⟨Nat.le_of_ble_eq_true rfl,Nat.le_of_ble_eq_true rfl,Nat.le_of_ble_eq_true rfl⟩,?_⟩;refine⟨hp.b,?_⟩;refine⟨l1,?_⟩;refine⟨l2,?_⟩;refine⟨l3,?_⟩;refine⟨rfl,?_⟩;refine⟨by show 0+ol.length<ah;unfold ah;exact ai DM,?_⟩;exact k γ _
theorem VM{C:Cl}{pf:PF}{i:Nat}{e x:Str}{ol:List D}{b:Bk}(hx:x.length<=5000)(hp:aA (.tuple [.str e,.int (.ofNat 1)]))(DM:ol.length<=1000):
  oX (Run C) pf (.tuple [.str bN,.int (.ofNat i),.str e,.int (.ofNat 1)]) (.O [x] ol) b .none (.O [] (lH i (iT bN [.str e,.int (.ofNat 1)] x)::ol)) b:=by
 intro b1 γ Q k;refine bc fun bf=>?_;obtain⟨l1,l2,l3⟩:=N1 (w:=bN) (x:=x) (by decide+kernel) hp hx;refine bf ?_;refine⟨by decide+kernel,?_⟩;refine⟨by decide,?_⟩;refine⟨⟨Nat.le_of_ble_eq_true rfl,Nat.le_of_ble_eq_true rfl,Nat.le_of_ble_eq_true rfl⟩,?_⟩;refine⟨hp.b,?_⟩;refine⟨l1,?_⟩;refine⟨l2,?_⟩;refine⟨l3,?_⟩;refine⟨rfl,?_⟩;refine⟨by show 0+ol.length<ah;unfold ah;exact ai DM,?_⟩;exact k γ _
theorem RD{C:Cl}{pf:PF}{i:Nat}{u:Bool}{x:Str}{ol:List D}{b:Bk}(hx:x.length<=5000)(hp:aA (.tuple [.bool u]))(DM:ol.length<=1000):
  oX (Run C) pf (.tuple [.str de,.int (.ofNat i),.bool u]) (.O [x] ol) b .none (.O [] (lH i (iT de [.bool u] x)::ol)) b:=by
 intro b1 γ Q k;refine bc fun bf=>?_;obtain⟨l1,l2,l3⟩:=N1 (w:=de) (x:=x) (by decide+kernel) hp hx;refine bf ?_;refine⟨by decide+kernel,?_⟩;refine⟨by decide,?_⟩;refine⟨⟨Nat.le_of_ble_eq_true rfl,Nat.le_of_ble_eq_true rfl,Nat.le_of_ble_eq_true rfl⟩,?_⟩;refine⟨hp.b,?_⟩;refine⟨l1,?_⟩;refine⟨l2,?_⟩;refine⟨l3,?_⟩;refine⟨rfl,?_⟩;refine⟨by show 0+ol.length<ah;unfold ah;exact ai DM,?_⟩;exact k γ _
theorem Zt{C:Cl}{pf:PF}{i:Nat}{ol:List D}{b:Bk}(DM:ol.length<=1000):
  oX (Run C) pf (.tuple [.str eH,.int (.ofNat i)]) (.O [] ol) b .none (.O [] (lH i (iT eH [] aI)::ol)) b:=by
 intro b1 γ Q k;have hp:=jx;refine bc fun bf=>?_;obtain⟨l1,l2,l3⟩:=N1 (w:=eH) (x:=aI) (by decide+kernel) hp (by decide);refine bf ?_;refine⟨by decide+kernel,?_⟩;refine⟨by decide,?_⟩;refine⟨⟨Nat.le_of_ble_eq_true rfl,Nat.le_of_ble_eq_true rfl,Nat.le_of_ble_eq_true rfl⟩,?_⟩;refine⟨hp.b,?_⟩;refine⟨l1,?_⟩;refine⟨l2,?_⟩;refine⟨l3,?_⟩;refine⟨rfl,?_⟩;refine⟨by show 0+ol.length<ah;unfold ah;omega,?_⟩;exact k γ _
theorem lW{C:Cl}{pf:PF}{w:Str}{xs:List D}{sk xJ:lg}{b:Bk}(hw:w=bN\/w=de\/w=eH)(h:oX C pf (.tuple (.str w::xs)) sk b .none xJ b):
  bS (Run C) pf (.tuple (.str w::xs)) sk b .none xJ b:=by
 intro b1 γ Q k;rcases hw with rfl|rfl|rfl
 all_goals
  refine h b1 γ _ fun gG τ=>?_;exact k _ _
noncomputable def gv(b:Bool)(rs:List D):Str:=((eG++(PyData.bool b).shown)++aQ)++(PyData.list rs).shown
theorem tr{b:Bool}{d:D}(h:aA d):eG.length+(PyData.bool b).shown.length<=ah/\(eG++(PyData.bool b).shown).length+aQ.length<=ah/\((eG++(PyData.bool b).shown)++aQ).length+d.shown.length<=ah:=by
 have h1:=h.2.2.2;have h2:∀b,(PyData.bool b).shown.length<=5:=by decide+kernel
 have h2:=h2 b;have h3:aQ.length=1:=by decide
 have h4:eG.length=7:=by decide
 rw[strLen_append (eG++(PyData.bool b).shown),strLen_append eG];unfold ah;exact⟨aZ h2 (iq h4),jI h2 (iq h3) (iq h4),uK h1 h2 (iq h3) (iq h4)⟩
theorem Dd{C:Cl}(hm:MarkC C){pf:PF}{e:Bool}{ms:List D}{m:Int}{b:Bk}(hb:b.told.length<=100000):
  bS (Run C) pf (.tuple [.str bB,.bool e,.list ms,.int m]) (.O [] []) b (if e then .int m else .int (.negSucc 0)) (.N []) (b.tell (gv e [])):=by
 intro b1 γ Q k;have hs:aA (.list []):=by unfold aA;decide+kernel
 obtain⟨l1,l2,l3⟩:=tr (b:=e) hs;refine⟨l1,?_⟩;refine⟨l2,?_⟩;refine⟨hs.b,?_⟩;refine⟨l3,?_⟩;refine(hm pf b b1 (lg.N []).bb none (γ+1) (gv e []) _).1 hb ?_;rcases e with _|_
 ·conv=>whnf
  exact k _ _
 ·conv=>whnf
  exact k _ _
theorem LF{C:Cl}(hm:MarkC C)(hr:mq C){pf:PF}{ms:List D}{m:Int}{ol:List D}{b:Bk}(hb:b.told.length<=100000)(ha:pf.gI.natAbs<=ah)(qQ:isNil ol.reverse=false)(hs:aA (.list ol.reverse))(hz:iC pf.gI b.ask.asked (Int.ofNat 3)=Int.ofNat 0):
  bS (Run C) pf (.tuple [.str bB,.bool true,.list ms,.int m]) (.O [] ol) b (.int m) (.N []) (b.tell (gv true ol.reverse)).ask:=by
 intro b1 γ Q k;refine bc fun bf=>?_;obtain⟨l1,l2,l3⟩:=tr (b:=true) hs;refine bf ?_;refine⟨l1,?_⟩;refine⟨l2,?_⟩;refine⟨hs.b,?_⟩;refine⟨l3,?_⟩;refine(hm pf b b1 (lg.N []).bb none (γ+1) (gv true ol.reverse) _).1 hb ?_
 conv=>whnf
 refine az (qQ) ?_;refine(hr pf (b.tell (gv true ol.reverse)) b1 (lg.N []).bb none (γ+1) (Int.ofNat 3) _ (by decide) ha).1 ?_
 conv=>whnf
 split
 ·conv=>whnf
  exact k _ _
 ·rename_i hd;exact absurd hz (of_decide_eq_false hd)
theorem LG{C:Cl}(hm:MarkC C)(hr:mq C){pf:PF}{ms:List D}{m:Int}{ol:List D}{b:Bk}(hb:b.told.length<=100000)(ha:pf.gI.natAbs<=ah)(qQ:isNil ol.reverse=false)(hs:aA (.list ol.reverse))(hz:¬iC pf.gI b.ask.asked (Int.ofNat 3)=Int.ofNat 0)
  {j i:Nat} {x:Str} {g:Int} (hlen:ol.length<=1000) (hj:iC pf.gI b.ask.ask.asked (Int.ofNat ol.length)=Int.ofNat j) (hx:idx ol.reverse (Int.ofNat j)=some (lH i x)) (hi:idx ms (Int.ofNat i)=some (.int g)) (hi9:i<=90) (hj9:j<=90):
  bS (Run C) pf (.tuple [.str bB,.bool true,.list ms,.int m]) (.O [] ol) b (.int g) (.N []) (b.tell (gv true ol.reverse)).ask.ask:=by
 intro b1 γ Q k;obtain⟨l1,l2,l3⟩:=tr (b:=true) hs;have RE:0<ol.length:=by induction ol using List.casesOn with
  |nil=>cases qQ
  |cons _ _=>exact Nat.succ_pos _
 refine⟨l1,?_⟩;refine⟨l2,?_⟩;refine⟨hs.b,?_⟩;refine⟨l3,?_⟩;refine(hm pf b b1 (lg.N []).bb none (γ+1) (gv true ol.reverse) _).1 hb ?_
 conv=>whnf
 refine az (qQ) ?_;refine(hr pf (b.tell (gv true ol.reverse)) b1 (lg.N []).bb none (γ+1) (Int.ofNat 3) _ (by decide) ha).1 ?_
 conv=>whnf
 split
 ·rename_i hd;exact absurd (of_decide_eq_true hd) hz
 ·conv=>whnf
  refine aj (by rw[List.length_reverse];unfold ah;omega) ?_;refine az (List.length_reverse) ?_;refine(hr pf (b.tell (gv true ol.reverse)).ask b1 (lg.N []).bb none (γ+1) (Int.ofNat ol.length) _ (by show(0:Int)<(ol.length:Int);omega) ha).1 ?_;refine az (show iC pf.gI (b.tell (gv true ol.reverse)).ask.ask.asked (Int.ofNat ol.length)=Int.ofNat j from hj) ?_
  conv=>whnf
  refine az (hx) ?_;refine aj (by unfold ah;omega) ?_
  conv=>whnf
  refine az (hi) ?_;refine aj (by unfold ah;omega) ?_;exact k _ _
theorem LH{C:Cl}(hm:MarkC C)(hr:mq C){pf:PF}{ms:List D}{m:Int}{ol:List D}{b:Bk}(hb:b.told.length<=100000)(ha:pf.gI.natAbs<=ah)(qQ:isNil ol.reverse=false)(hs:aA (.list ol.reverse))
  {j i:Nat} {x:Str} {g:Int} (hlen:ol.length<=1000) (hj:iC pf.gI b.ask.asked (Int.ofNat ol.length)=Int.ofNat j) (hx:idx ol.reverse (Int.ofNat j)=some (lH i x)) (hi:idx ms (Int.ofNat i)=some (.int g)) (hi9:i<=90) (hj9:j<=90):
  bS (Run C) pf (.tuple [.str bB,.bool false,.list ms,.int m]) (.O [] ol) b (.int g) (.N []) (b.tell (gv false ol.reverse)).ask:=by
 intro b1 γ Q k;obtain⟨l1,l2,l3⟩:=tr (b:=false) hs;have RE:0<ol.length:=by induction ol using List.casesOn with
  |nil=>cases qQ
  |cons _ _=>exact Nat.succ_pos _
 refine⟨l1,?_⟩;refine⟨l2,?_⟩;refine⟨hs.b,?_⟩;refine⟨l3,?_⟩;refine(hm pf b b1 (lg.N []).bb none (γ+1) (gv false ol.reverse) _).1 hb ?_
 conv=>whnf
 refine az (qQ) ?_;refine aj (by rw[List.length_reverse];unfold ah;omega) ?_;refine az (List.length_reverse) ?_;refine(hr pf (b.tell (gv false ol.reverse)) b1 (lg.N []).bb none (γ+1) (Int.ofNat ol.length) _ (by show(0:Int)<(ol.length:Int);omega) ha).1 ?_;refine az (show iC pf.gI (b.tell (gv false ol.reverse)).ask.asked (Int.ofNat ol.length)=Int.ofNat j from hj) ?_
 conv=>whnf
 refine az (hx) ?_;refine aj (by unfold ah;omega) ?_
 conv=>whnf
 refine az (hi) ?_;refine aj (by unfold ah;omega) ?_;exact k _ _
noncomputable def kP(C:Cl):Prop:=∀(t:Th) (σ:St) (Q:KV),σ.temps=[]->gK t->Q (.d (.str (bD t))) σ->C cW [.d (oQ t)] σ Q
noncomputable def FF(C:Cl):Prop:=∀(σ:St) (Q:KV),σ.temps=[]->Q (.d (.str (AF (.ofNat 0)))) σ->C cW [.d PB] σ Q
theorem RF{C:Cl}:kP (Run C):=by
 intro t σ Q Iw ht k;cases σ;rcases Iw with _|_
 have hp:=mV t (mn ht)
 induction t using Th.casesOn with
 |obj=>
  have l1:km.length+(PyData.tuple [.int (.ofNat 1),.str Bi]).shown.length<=ah:=by decide+kernel
  refine⟨by decide,?_⟩;refine⟨⟨Nat.le_of_ble_eq_true rfl,Nat.le_of_ble_eq_true rfl,Nat.le_of_ble_eq_true rfl⟩,?_⟩;refine⟨hp.b,?_⟩;refine⟨l1,?_⟩;exact k
 |lit j=>
  have hp:aA (.tuple [.int j]):=mV (.lit j) (mn ht);have l1:iR.length+(PyData.tuple [.int j]).shown.length<=ah:=by
   have:=hp.2.2.2;have h4:iR.length=6:=by decide
   unfold ah;exact aZ this (iq h4)
  refine⟨hp.b,?_⟩;refine⟨l1,?_⟩;exact k
theorem N2{C:Cl}:FF (Run C):=by
 intro σ Q Iw k;cases σ;rcases Iw with _|_
 have hp:=yY;have l1:km.length+(PyData.tuple [.int (.ofNat 0),.str Bi]).shown.length<=ah:=by decide+kernel
 refine⟨by decide,?_⟩;refine⟨⟨Nat.le_of_ble_eq_true rfl,Nat.le_of_ble_eq_true rfl,Nat.le_of_ble_eq_true rfl⟩,?_⟩;refine⟨hp.b,?_⟩;refine⟨l1,?_⟩;exact k
noncomputable def mu:Option Th->Str
 |some t=>AD t
 |none=>AE
noncomputable def jy(b:Bk):Option Th->Bk
 |some t=>b.tell (AD t)
 |none=>(b.tell ip).tell AE
noncomputable def bO:Bk->List (Option Th)->Bk
 |b,[]=>b
 |b,a::l=>bO (jy b a) l
theorem t9(b:Bk)(a:Option Th):(jy b a).told.length<=b.told.length+2:=by
 rcases a with _|_<;>simp[jy,Bk.tell]
theorem r9:∀(l:List (Option Th)) (b:Bk),(bO b l).told.length<=b.told.length+2*l.length:=by
 intro l0
 induction l0 with
 |nil=>
  intro _;exact Nat.le_refl _
 |cons a l ih=>
  intro b;have h1:=ih (jy b a);have h2:=t9 b a;show(bO (jy b a) l).told.length<=_;rw[List.length_cons];exact aZ h1 h2
theorem N4:dh=((fX++aQ)++(PyData.tuple []).shown)++aQ:=by decide+kernel
theorem FG:dY=((da++aQ)++(PyData.tuple []).shown)++aQ:=by decide+kernel
theorem N5:dj=((dc++aQ)++(PyData.tuple []).shown)++aQ:=by decide+kernel
noncomputable def wN:List T:=[.fM (.cmp .eq (.var fW) (.c (.str xO))) [.expr (.append (.var cf) (.call aU [(.var aM),(.bin .add (.c (.str dh)) (.str (.lst .fz [(.call cW [(.var bh)])])))]))] [.asg (.x da) (.call aU [(.var aM),(.bin .add (.c (.str dY)) (.str (.lst .fz [(.bin .add (.c (.str nA)) (.str (.DT (.var bh) (some (.c (.int (.ofNat 2)))) none)))])))]),.expr (.append (.var cf) (.call aU [(.var aM),(.bin .add (.c (.str dj)) (.str (.lst .fz [(.var da)])))]))]]
noncomputable def sd(x:D)(rest:ak):ak:=(aM,.b 11)::(rp,.d x)::(cf,.t 0)::rest
noncomputable def GV(rest:ak):Prop:=rest=[]\/(∃a b,rest=[(fW,.d a),(bh,.d b)])\/(∃a b c,rest=[(fW,.d a),(bh,.d b),(da,.d c)])
theorem mW{s:Str}(h:ku s):aA (.list [.str s]):=mU (l:=[s]) (by simp) fun x hx=>by rw[List.mem_singleton]at hx;exact hx▸h
theorem IJ{C:Cl}(hs:kP C)(hm:MarkC C){x:D}{rest:ak}(d9:GV rest){a:Option Th}{pf:PF}{b0 b1:Bk}{bb bC:Option aL}{γ:Nat}{r:List D}{R:ak->St->Prop}{Q:KF}(ha:fw a)(hr:r.length<=1000)(hb:b1.told.length<=99990)
  (k:∀aG,GV aG->R (sd x aG) (eV pf b0 (jy b1 a) bb bC γ [.list [] (.str (mu a)::r)])):
  bind1 [fW,bh] (gW a) (sd x rest) fun ed=>gC (ex G C 59) wN ed (eV pf b0 b1 bb bC γ [.list [] r]) (wB R Q):=by
 have je:0+r.length<ah:=by unfold ah;exact ai hr
 rcases d9 with rfl|⟨a0,c0,rfl⟩|⟨a0,c0,d0,rfl⟩
 all_goals
  induction a using Option.casesOn with
  |some t=>
   have to:=ha t rfl;have hs1:=mW (et to);have yT:dh.length+(PyData.list [.str (bD t)]).shown.length<=ah:=by
    have:=hs1.2.2.2;have h4:dh.length=10:=by decide
    unfold ah;exact aZ this (iq h4)
   refine hs t (eV pf b0 b1 bb bC γ []) _ rfl to ?_;refine⟨hs1.b,?_⟩;refine⟨yT,?_⟩;refine(hm pf b0 b1 bb bC γ (dh++(PyData.list [.str (bD t)]).shown) _).2 (by omega) ?_;refine az (N4) ?_;refine⟨je,?_⟩
   first
   |exact k [(fW,.d (.str xO)),(bh,.d (oQ t))] (.inr (.inl ⟨_,_,rfl⟩))
   |exact k [(fW,.d (.str xO)),(bh,.d (oQ t)),(da,.d d0)] (.inr (.inr ⟨_,_,_,rfl⟩))
  |none=>
   refine⟨by decide,?_⟩;refine⟨⟨Nat.le_of_ble_eq_true rfl,Nat.le_of_ble_eq_true rfl,Nat.le_of_ble_eq_true rfl⟩,?_⟩;refine⟨wM.b,?_⟩;refine⟨by decide+kernel,?_⟩;refine⟨(mW t7).b,?_⟩;refine⟨by decide+kernel,?_⟩;refine(hm pf b0 b1 bb bC γ (dY++(PyData.list [.str lG]).shown) _).2 (by omega) ?_;refine az (show dY++(PyData.list [.str lG]).shown=ip from by rw[FG];rfl) ?_;refine⟨(mW r7).b,?_⟩;refine⟨by decide+kernel,?_⟩;refine(hm pf b0 (b1.tell ip) bb bC γ (dj++(PyData.list [.str ip]).shown) _).2 (by show b1.told.length+1<=_;exact ai hb) ?_;refine az (show dj++(PyData.list [.str ip]).shown=AE from by rw[N5];rfl) ?_;refine⟨je,?_⟩;exact k [(fW,.d (.str iZ)),(bh,.d tZ),(da,.d (.str ip))] (.inr (.inr ⟨_,_,_,rfl⟩))
theorem IK{C:Cl}(hs:kP C)(hm:MarkC C){x:D}{pf:PF}{b0:Bk}{bb bC:Option aL}{γ:Nat}{Q:KF}:∀(as:List (Option Th)) (rest:ak) (b1:Bk) (r:List D),(∀a∈as,fw a)->GV rest->r.length+as.length<=1000->b1.told.length+2*as.length<=99990->
  (∀aG,GV aG->Q .next (sd x aG) (eV pf b0 (bO b1 as) bb bC γ [.list [] ((as.map fun a=>PyData.str (mu a)).reverse++r)]))->
  forL (ex G C 59) [fW,bh] wN none (as.map gW) (sd x rest) (eV pf b0 b1 bb bC γ [.list [] r]) Q:=by
 intro l0
 induction l0 with
 |nil=>
  intro rest b1 r ha hr h1 h2 k;exact k rest hr
 |cons a as ih=>
  intro rest b1 r ha hr h1 h2 k;rw[List.length_cons]at h1 h2;refine az (List.map_cons) ?_;refine az (dn) ?_;have:=t9 b1 a;refine IJ hs hm hr (ha a List.mem_cons_self) (ai h1) (ai h2) fun aG je=>?_;refine ih aG (jy b1 a) _ (fun y hy=>ha y (List.mem_cons_of_mem _ hy)) je (by rw[List.length_cons];exact ai h1) (aZ h2 this) fun gX uB=>?_;have:=k gX uB;rw[List.map_cons,List.reverse_cons,List.append_assoc]at this;exact this
noncomputable def FH(C:Cl):Prop:=∀(as:List (Option Th)) (pf:PF) (b0 b1:Bk) (bb bC:Option aL) (γ:Nat) (Q:KV),wz as->b1.told.length<=99900->
 (∀τ,Q (.d (.list (as.map fun a=>PyData.str (mu a)))) (eV pf b0 (bO b1 as) bb bC γ τ))->C iI [.b 11,.d (.list (as.map gW))] (eV pf b0 b1 bb bC γ []) Q
theorem N6{C:Cl}(hs:kP C)(hm:MarkC C):FH (Run C):=by
 intro as pf b0 b1 bb bC γ Q ha hb k;show gC (ex G C 60) ((P.code iI).take 1++(P.code iI).drop 1) [(aM,.b 11),(rp,.d (.list (as.map gW)))] (eV pf b0 b1 bb bC γ []) (fS Q);refine bq fun R hR=>?_;refine hR (sd (.list (as.map gW)) []) (eV pf b0 b1 bb bC γ [.list [] []]) ?_;refine az (show(P.code iI).drop 1=[.gQ [fW,bh] (.var rp) wN]++[.ret (some (.var cf))]from rfl) ?_;refine bq fun R2 t6=>?_;refine ju fun F hF=>?_;have:=ha.1;refine aj (by rw[List.length_map];unfold ah;omega) ?_;refine hF _ _ _ ?_;refine IK hs hm as [] b1 [] ha.2 (.inl rfl) (by rw[List.length_nil];exact ai this) (aZ hb (qk 2 this)) fun aG je=>?_;refine t6 _ _ ?_;rw[List.append_nil];have kk:∀τ,Q (.d (.list (as.map fun a=>PyData.str (mu a)).reverse.reverse)) (eV pf b0 (bO b1 as) bb bC γ τ):=fun τ=>by rw[List.reverse_reverse];exact k τ
 rcases je with rfl|⟨a0,c0,rfl⟩|⟨a0,c0,d0,rfl⟩
 all_goals
  exact kk _
noncomputable def jd:Option Th->List Str
 |none=>[]
 |some t=>[bD t]
noncomputable def cq(ahead:List Str)(c:eS):List Str:=ahead++([bD c.pre]++(jd c.aP++c.args.map mu))
noncomputable def AH:Option (Option Bool)->List D
 |none=>[]
 |some h=>[.str (qL h)]
noncomputable def i8(c:eS)(how:Option (Option Bool)):List D:=[.str (cE c.ent),.int (.ofNat (bA c.aP)),.int (.ofNat c.args.length)]++AH how
noncomputable def eW(how:Option (Option Bool))(ahead:List Str)(c:eS):Str:=aO (match how with|none=>cu|some _=>dK) (i8 c how) (cq ahead c)
theorem FI:∀(e:Bool) (f:Fin 2) (c:Fin 3),∀how∈[none,some none,some (some true),some (some false)],aA (.tuple ([.str (cE e),.int (.ofNat f.1),.int (.ofNat c.1)]++AH how)):=by unfold aA;decide+kernel
theorem N7:∀how:Option (Option Bool),how∈[none,some none,some (some true),some (some false)]
 |none=>by simp
 |some none=>by simp
 |some (some true)=>by simp
 |some (some false)=>by simp
theorem cT(f:Option Th):bA f<2:=by rcases f with _|_<;>simp[bA]
theorem nN{c:eS}(h:gu c)(how:Option (Option Bool)):aA (.tuple (i8 c how)):=
 FI c.ent ⟨bA c.aP,cT _⟩ ⟨c.args.length,by have:=h.args.1;exact ai this⟩ how (N7 how)
theorem N8{a:Option Th}(h:fw a):ku (mu a):=by
 induction a using Option.casesOn with
 |none=>exact IA
 |some t=>exact IC (h t rfl)
theorem AI{a:Option Th}(h:fw a):∀s∈jd a,ku s:=by
 induction a using Option.casesOn with
 |none=>intro s hs;cases hs
 |some t=>intro s hs;rw[jd,List.mem_singleton]at hs;exact hs▸et (h t rfl)
theorem AJ{c:eS}(h:gu c){ahead:List Str}(ha:∀s∈ahead,ku s):∀s∈cq ahead c,ku s:=by
 intro s hs;unfold cq at hs;rcases List.mem_append.mp hs with hs|hs
 ·exact ha s hs
 ·rcases List.mem_append.mp hs with hs|hs
  ·rw[List.mem_singleton]at hs;exact hs▸et h.pre
  ·rcases List.mem_append.mp hs with hs|hs
   ·exact AI h.aP s hs
   ·obtain⟨a,W9,rfl⟩:=List.mem_map.mp hs;exact N8 (h.args.2 a W9)
theorem kx(f:Option Th):(jd f).length=bA f:=by rcases f with _|_<;>rfl
theorem iL{c:eS}{ahead:List Str}:(cq ahead c).length=ahead.length+(1+(bA c.aP+c.args.length)):=by
 unfold cq;simp only[List.length_append,List.length_map,kx,List.length_singleton]
theorem lI{c:eS}(h:gu c){ahead:List Str}(ha:∀s∈ahead,ku s)(hl:ahead.length<=1):aA (.list ((cq ahead c).map PyData.str)):=by
 refine mU ?_ (AJ h ha);refine az (iL) ?_;have:=cT c.aP;have:=h.args.1;omega
theorem yq{x:Str}{p t:D}(h:x.length<=100)(hp:aA p)(ht:aA t):x.length+p.shown.length<=ah/\(x++p.shown).length+aQ.length<=ah/\((x++p.shown)++aQ).length+t.shown.length<=ah:=by
 have h1:=hp.2.2.2;have h2:=ht.2.2.2;have h3:aQ.length=1:=by decide
 rw[strLen_append (x++p.shown),strLen_append x];unfold ah;exact⟨aZ h h1,jI h h1 (iq h3),uK h h1 h2 (iq h3)⟩
theorem De:fY=cu++aQ:=by decide+kernel
theorem GW:hY=dK++aQ:=by decide+kernel
noncomputable def wO(C:Cl):Prop:=∀(how:Option (Option Bool)) (ahead:List Str) (l:Int) (c:eS) (pf:PF) (b0 b1:Bk) (bb bC:Option aL) (γ:Nat) (Q:KV),gu c->(∀s∈ahead,ku s)->ahead.length<=1->b1.told.length<=99000->
 (Q (.d .none) (eV pf b0 ((bO b1 c.args).tell (eW how ahead c)) bb bC γ []))->C kG [.b 11,.d (j8 l c),.d (.list (ahead.map PyData.str)),.d (.tuple (AH how))] (eV pf b0 b1 bb bC γ []) Q
theorem N9{C:Cl}(hs:kP C)(hm:MarkC C)(hw:FH C):wO (Run C):=by
 intro how ahead l c pf b0 b1 bb bC γ Q hc RG p6 hb k;have hS:=lI hc RG p6;have hP:=nN hc how;have h2:=hc.args.1;have hT:=r9 c.args b1;rcases IL:c.aP with _|t
 ·have eT:(((ahead.map PyData.str++[PyData.str (bD c.pre)])++[])++c.args.map fun a=>PyData.str (mu a))=(cq ahead c).map PyData.str:=by
   unfold cq;rw[IL];simp[jd,Function.comp_def]
  rw[<-eT]at hS;have eP:i8 c how=[.str (cE c.ent),.int (.ofNat 0),.int (.ofNat (c.args.map gW).length)]++AH how:=by
   unfold i8;rw[IL,List.length_map];rfl
  rw[eP]at hP;have go:∀x:Str,x.length<=100->eW how ahead c=((x++(PyData.tuple ([.str (cE c.ent),.int (.ofNat 0),.int (.ofNat (c.args.map gW).length)]++AH how)).shown)++aQ)++(PyData.list (((ahead.map PyData.str++[PyData.str (bD c.pre)])++[])++c.args.map fun a=>PyData.str (mu a))).shown->
    Q (.d .none) (eV pf b0 ((bO b1 c.args).tell (((x++(PyData.tuple ([.str (cE c.ent),.int (.ofNat 0),.int (.ofNat (c.args.map gW).length)]++AH how)).shown)++aQ)++(PyData.list (((ahead.map PyData.str++[PyData.str (bD c.pre)])++[])++c.args.map fun a=>PyData.str (mu a))).shown)) bb bC γ []):=fun x _ e=>by rw[<-e];exact k
  obtain⟨pre,ent,aP,args⟩:=c;subst IL;replace h2:args.length<=2:=h2;replace hT:(bO b1 args).told.length<=b1.told.length+2*args.length:=hT;refine hs pre (eV pf b0 b1 bb bC γ []) _ rfl hc.pre ?_;refine⟨by show(ahead.map PyData.str).length+1<=ah;rw[List.length_map];unfold ah;exact ai p6,?_⟩;refine⟨by show(ahead.map PyData.str++[PyData.str (bD pre)]).length+0<=ah;rw[List.length_append,List.length_map];simp only[List.length_singleton];unfold ah;exact ai p6,?_⟩;refine hw args pf b0 b1 bb bC γ _ hc.args (by omega) fun τ=>?_;refine⟨by show((ahead.map PyData.str++[PyData.str (bD pre)])++[]).length+(args.map fun a=>PyData.str (mu a)).length<=ah;rw[List.append_nil,List.length_append,List.length_map,List.length_map];simp only[List.length_singleton];unfold ah;exact aZ p6 h2,?_⟩;refine aj (by rw[List.length_map];show args.length<=ah;unfold ah;omega) ?_
  induction how using Option.casesOn with
  |none=>
   obtain⟨l1,l2,l3⟩:=yq (x:=fY) (by decide) hP hS;refine⟨Nat.le_of_ble_eq_true rfl,?_⟩;refine⟨hP.b,?_⟩;refine⟨l1,?_⟩;refine⟨l2,?_⟩;refine⟨hS.b,?_⟩;refine⟨l3,?_⟩;refine(hm pf b0 (bO b1 args) bb bC γ _ _).2 (jI hb (qk 2 h2) hT) ?_;exact go fY (by decide) (by unfold eW aO;rw[De,eP,<-eT])
  |some h=>
   obtain⟨l1,l2,l3⟩:=yq (x:=hY) (by decide) hP hS;refine⟨Nat.le_of_ble_eq_true rfl,?_⟩;refine⟨hP.b,?_⟩;refine⟨l1,?_⟩;refine⟨l2,?_⟩;refine⟨hS.b,?_⟩;refine⟨l3,?_⟩;refine(hm pf b0 (bO b1 args) bb bC γ _ _).2 (jI hb (qk 2 h2) hT) ?_;exact go hY (by decide) (by unfold eW aO;rw[GW,eP,<-eT])
 ·have eT:(((ahead.map PyData.str++[PyData.str (bD c.pre)])++[PyData.str (bD t)])++c.args.map fun a=>PyData.str (mu a))=(cq ahead c).map PyData.str:=by
   unfold cq;rw[IL];simp[jd,Function.comp_def]
  rw[<-eT]at hS;have eP:i8 c how=[.str (cE c.ent),.int (.ofNat 1),.int (.ofNat (c.args.map gW).length)]++AH how:=by
   unfold i8;rw[IL,List.length_map];rfl
  rw[eP]at hP;have go:∀x:Str,x.length<=100->eW how ahead c=((x++(PyData.tuple ([.str (cE c.ent),.int (.ofNat 1),.int (.ofNat (c.args.map gW).length)]++AH how)).shown)++aQ)++(PyData.list (((ahead.map PyData.str++[PyData.str (bD c.pre)])++[PyData.str (bD t)])++c.args.map fun a=>PyData.str (mu a))).shown->
    Q (.d .none) (eV pf b0 ((bO b1 c.args).tell (((x++(PyData.tuple ([.str (cE c.ent),.int (.ofNat 1),.int (.ofNat (c.args.map gW).length)]++AH how)).shown)++aQ)++(PyData.list (((ahead.map PyData.str++[PyData.str (bD c.pre)])++[PyData.str (bD t)])++c.args.map fun a=>PyData.str (mu a))).shown)) bb bC γ []):=fun x _ e=>by rw[<-e];exact k
  obtain⟨pre,ent,aP,args⟩:=c;subst IL;replace h2:args.length<=2:=h2;replace hT:(bO b1 args).told.length<=b1.told.length+2*args.length:=hT;have to:gK t:=hc.aP _ rfl;refine hs t (eV pf b0 b1 bb bC γ []) _ rfl to ?_;refine hs pre (eV pf b0 b1 bb bC γ []) _ rfl hc.pre ?_;refine⟨by show(ahead.map PyData.str).length+1<=ah;rw[List.length_map];unfold ah;exact ai p6,?_⟩;refine⟨by show(ahead.map PyData.str++[PyData.str (bD pre)]).length+1<=ah;rw[List.length_append,List.length_map];simp only[List.length_singleton];unfold ah;exact ai p6,?_⟩;refine hw args pf b0 b1 bb bC γ _ hc.args (by omega) fun τ=>?_;refine⟨by show((ahead.map PyData.str++[PyData.str (bD pre)])++[PyData.str (bD t)]).length+(args.map fun a=>PyData.str (mu a)).length<=ah;rw[List.length_append,List.length_append,List.length_map,List.length_map];simp only[List.length_singleton];unfold ah;exact aZ p6 h2,?_⟩;refine aj (by rw[List.length_map];show args.length<=ah;unfold ah;omega) ?_
  induction how using Option.casesOn with
  |none=>
   obtain⟨l1,l2,l3⟩:=yq (x:=fY) (by decide) hP hS;refine⟨Nat.le_of_ble_eq_true rfl,?_⟩;refine⟨hP.b,?_⟩;refine⟨l1,?_⟩;refine⟨l2,?_⟩;refine⟨hS.b,?_⟩;refine⟨l3,?_⟩;refine(hm pf b0 (bO b1 args) bb bC γ _ _).2 (by omega) ?_;exact go fY (by decide) (by unfold eW aO;rw[De,eP,<-eT])
  |some h=>
   obtain⟨l1,l2,l3⟩:=yq (x:=hY) (by decide) hP hS;refine⟨Nat.le_of_ble_eq_true rfl,?_⟩;refine⟨hP.b,?_⟩;refine⟨l1,?_⟩;refine⟨l2,?_⟩;refine⟨hS.b,?_⟩;refine⟨l3,?_⟩;refine(hm pf b0 (bO b1 args) bb bC γ _ _).2 (by omega) ?_;exact go hY (by decide) (by unfold eW aO;rw[GW,eP,<-eT])
theorem AK{t:ak->St->(Bool->St->Prop)->Prop}{h:Ex}{b:List T}{n:Nat}{ê:ak}{σ:St}{Q:KF}
  (k:∀W:ak->St->Prop,(∀ed aF,zi t h b n ed aF Q->W ed aF)->t ê σ fun c ab=>match c with|false=>Q .next ê ab|true=>gC h b ê ab (wB W Q)):zi t h b (n+1) ê σ Q:=by
 have:=k (fun ed aF=>zi t h b n ed aF Q) fun _ _ x=>x;exact this
structure PX where
 pf:PF
 C2:Cl
 b1:Bk
 Q:KF
 NA:Bk->Prop
noncomputable def PX.C(X:PX):Cl:=Run (Run X.C2)
structure nU(X:PX):Prop where
 gI:X.pf.gI.natAbs<=ah
 na:∀(b:Bk) (ê:ak) (sk:lg) (γ:Nat),X.NA b->X.Q (.ret (.d (.str bz))) ê (eV X.pf b X.b1 sk.bb sk.bC γ [])
 len:X.pf.R.length<=90000
noncomputable def wQ:E:=.cmp .ne (.sub (.sub (.var bT) (.var aW)) (.c (.int (.ofNat 0)))) (.c (.str fg))
noncomputable def wR:List T:=[.asg (.x nz) (.call sY [(.var aM),(.sub (.var bT) (.var aW)),(.var s_stack)]),.fM (.cmp .eq (.var nz) (.neg 0)) [.ret (some (.c (.str bz)))] [],.asg (.x aW) (.ite (.cmp .is (.var nz) (.c .none)) (.bin .add (.var aW) (.c (.int (.ofNat 1)))) (.var nz))]
noncomputable def pe(R:List D)(at_:Nat):Option D->ak
 |none=>[(aM,.b 10),(bT,.d (.list R)),(s_stack,.b 14),(aW,.d (.int (.ofNat at_)))]
 |some g=>[(aM,.b 10),(bT,.d (.list R)),(s_stack,.b 14),(aW,.d (.int (.ofNat at_))),(nz,.d g)]
noncomputable def bP(X:PX)(at_:Nat)(sk:lg)(b:Bk):Prop:=∀(n:Nat) (g:Option D) (γ:Nat),X.pf.R.length<n+at_->
 zi (DY (ev G X.C 59) G.tab 59 wQ) (ex G X.C 59) wR n (pe X.pf.R at_ g) (eV X.pf b X.b1 sk.bb sk.bC γ []) X.Q
theorem k9{α:Type}:∀{l:List α} {i:Nat} {x:α},aq l i=some x->i<l.length
 |[],_,_,h=>by cases h
 |_::_,0,_,_=>Nat.succ_pos _
 |_::l,i+1,_,h=>Nat.succ_lt_succ (k9 (l:=l) h)
theorem aX{X:PX}(hX:nU X){at_ at':Nat}{w:Str}{xs:List D}{sk xJ:lg}{b b':Bk}{goal:D}(uE:idx X.pf.R (Int.ofNat at_)=some (.tuple (.str w::xs)))(hw:fb w fg=false)(p9:at_<at')
  (hd:bS X.C X.pf (.tuple (.str w::xs)) sk b goal xJ b') (hg:(goal=.none/\at'=at_+1)\/goal=.int (.ofNat at')) (k:bP X at' xJ b'):bP X at_ sk b:=by
 intro n g γ hn;have hl:at_<X.pf.R.length:=k9 uE;have DK:=hX.len
 induction n using Nat.casesAuxOn with
 |zero=>omega
 |succ n=>
  refine AK fun W hW=>?_
  induction g using Option.casesOn with
  |none=>
   conv=>whnf
   refine az (uE) ?_;refine aj (by unfold ah;exact aZ hl DK (aZ hl DK)) ?_
   conv=>whnf
   refine az (hw) ?_
   conv=>whnf
   refine az (uE) ?_
   conv=>whnf
   refine aj (by unfold ah;exact aZ hl DK) ?_
   conv=>whnf
   refine hd X.b1 γ _ fun gG τ=>?_;rcases hg with⟨rfl,rfl⟩|rfl
   ·conv=>whnf
    refine hW (pe X.pf.R (at_+1) (some .none)) (eV X.pf b' X.b1 xJ.bb xJ.bC gG []) ?_;exact k n _ gG (ai hn)
   ·conv=>whnf
    refine hW (pe X.pf.R at' (some (.int (.ofNat at')))) (eV X.pf b' X.b1 xJ.bb xJ.bC gG []) ?_;exact k n _ gG (aZ p9 hn)
  |some g=>
   conv=>whnf
   refine az (uE) ?_;refine aj (by unfold ah;omega) ?_
   conv=>whnf
   refine az (hw) ?_
   conv=>whnf
   refine az (uE) ?_;refine aj (by unfold ah;omega) ?_
   conv=>whnf
   refine hd X.b1 γ _ fun gG τ=>?_;rcases hg with⟨rfl,rfl⟩|rfl
   ·conv=>whnf
    refine hW (pe X.pf.R (at_+1) (some .none)) (eV X.pf b' X.b1 xJ.bb xJ.bC gG []) ?_;exact k n _ gG (ai hn)
   ·conv=>whnf
    refine hW (pe X.pf.R at' (some (.int (.ofNat at')))) (eV X.pf b' X.b1 xJ.bb xJ.bC gG []) ?_;exact k n _ gG (aZ p9 hn)
theorem Oa{X:PX}(hX:nU X){at_:Nat}{w:Str}{xs:List D}{sk xJ:lg}{b b':Bk}(uE:idx X.pf.R (Int.ofNat at_)=some (.tuple (.str w::xs)))(hw:fb w fg=false)
  (hd:bS X.C X.pf (.tuple (.str w::xs)) sk b (.int (.negSucc 0)) xJ b') (k:X.NA b'):bP X at_ sk b:=by
 intro n g γ hn;have hl:at_<X.pf.R.length:=k9 uE;have DK:=hX.len
 induction n using Nat.casesAuxOn with
 |zero=>omega
 |succ n=>
  refine AK fun W hW=>?_;rcases g with _|_
  all_goals
   conv=>whnf
   refine az (uE) ?_
   conv=>whnf
   refine aj (by unfold ah;omega) ?_
   conv=>whnf
   refine az (hw) ?_
   conv=>whnf
   refine az (uE) ?_;refine aj (by unfold ah;omega) ?_
   conv=>whnf
   refine hd X.b1 γ _ fun gG τ=>?_;exact hX.na b' _ xJ gG k
noncomputable def gJ(R:List D)(M:Nat->Int)(a:Nat):List Row->Prop
 |[]=>True
 |x::new=>gJ R M a new/\idx R (Int.ofNat (a+new.length))=some (bV M x)
theorem cw{R:List D}{M:Nat->Int}{a:Nat}{c1:List Row}:∀{c2:List Row},gJ R M a (c2++c1)->gJ R M a c1/\gJ R M (a+c1.length) c2:=by
 intro l0
 induction l0 with
 |nil=>
  intro h;exact⟨h,trivial⟩
 |cons x c2 ih=>
  intro h;have h1:=h.1;have h2:=h.2;have RH:=ih h1;have h3:=RH.1;have h4:=RH.2;clear RH;refine⟨h3,h4,?_⟩;have:a+(c2.append c1).length=a+c1.length+c2.length:=by
   show a+(c2++c1).length=_;rw[List.length_append];omega
  rw[this]at h2;exact h2
noncomputable def bF:Str:=aO iE [] []
noncomputable def fQ:Str:=aO gi [] []
noncomputable def jW:Str:=aO fN [] []
noncomputable def AL:Str:=aO q8 [] []
noncomputable def tv:Str:=aO gp [.str aI] []
noncomputable def stepT(l:Int):Str:=aO nk [.int l] []
theorem jX:aA (.list (([]:List Str).reverse.map PyData.str)):=by unfold aA;decide+kernel
theorem RI:aA (.tuple [.str aI]):=by unfold aA;decide+kernel
theorem AM:∀u,aA (.tuple [.bool u]):=by unfold aA;decide+kernel
theorem GX:∀fm,aA (.tuple [d4 fm]):=by unfold aA;decide+kernel
section
variable{X:PX}{M:Nat->Int}{a:Nat}{b:Bk}{st:List Str}
theorem eX(hX:nU X){x:D}(h:idx X.pf.R (Int.ofNat a)=some x):a<90000:=Nat.lt_of_lt_of_le (k9 h) hX.len
theorem wU(hX:nU X)(h:idx X.pf.R (Int.ofNat a)=some (bV M .cP))(hb:b.told.length<=a)(k:bP X (a+1) (.N []) (b.tell bF)):bP X a (.N []) b:=
 have hl:=eX hX h
 aX hX h (by decide) (Nat.lt_succ_self a) (Fy eZ (tk:=[]) (rest:=[]) (aZ hb hl) rfl (by decide) jX jx) (.inl ⟨rfl,rfl⟩) k
theorem ua(hX:nU X)(h:idx X.pf.R (Int.ofNat a)=some (bV M .i7))(hb:b.told.length<=a)(k:bP X (a+1) (.N []) (b.tell fQ)):bP X a (.N []) b:=
 have hl:=eX hX h
 aX hX h (by decide) (Nat.lt_succ_self a) (yn eZ (tk:=[]) (rest:=[]) (aZ hb hl) rfl (by decide) jX jx) (.inl ⟨rfl,rfl⟩) k
theorem wV(hX:nU X)(h:idx X.pf.R (Int.ofNat a)=some (bV M .bL))(hb:b.told.length<=a)(k:bP X (a+1) (.N []) (b.tell jW)):bP X a (.N []) b:=
 have hl:=eX hX h
 aX hX h (by decide) (Nat.lt_succ_self a) (AG eZ (tk:=[]) (rest:=[]) (aZ hb hl) rfl (by decide) jX jx) (.inl ⟨rfl,rfl⟩) k
theorem PJ(hX:nU X)(h:idx X.pf.R (Int.ofNat a)=some (bV M .arm))(hb:b.told.length<=a)(k:bP X (a+1) (.N []) (b.tell AL)):bP X a (.N []) b:=
 have hl:=eX hX h
 aX hX h (by decide) (Nat.lt_succ_self a) (NY eZ (tk:=[]) (rest:=[]) (by omega) rfl (by decide) jX jx) (.inl ⟨rfl,rfl⟩) k
theorem Ob(hX:nU X)(h:idx X.pf.R (Int.ofNat a)=some (bV M .block))(hb:b.told.length<=a)(k:bP X (a+1) (.N []) (b.tell tv)):bP X a (.N []) b:=
 have hl:=eX hX h
 aX hX h (by decide) (Nat.lt_succ_self a) (ID eZ (tk:=[]) (rest:=[]) (by omega) rfl (by decide) jX RI) (.inl ⟨rfl,rfl⟩) k
theorem RJ(hX:nU X){l:Int}(hl:Ln l)(h:idx X.pf.R (Int.ofNat a)=some (bV M (.step l)))(hb:b.told.length<=a)(k:bP X (a+1) (.N []) (b.tell (stepT l))):bP X a (.N []) b:=
 have xG:=eX hX h
 aX hX h (by decide) (Nat.lt_succ_self a) (LB eZ (tk:=[]) (rest:=[]) (by omega) rfl (by decide) jX (yV hl)) (.inl ⟨rfl,rfl⟩) k
theorem yr(hX:nU X){fm:Bool}(h:idx X.pf.R (Int.ofNat a)=some (bV M (.cL (d4 fm))))(hb:b.told.length<=a)(k:bP X (a+1) (.N []) (b.tell (aO cO [d4 fm] []))):bP X a (.N []) b:=
 have xG:=eX hX h
 aX hX h (by decide) (Nat.lt_succ_self a) (uD eZ (tk:=[]) (rest:=[]) (by omega) rfl (by decide) jX (GX fm)) (.inl ⟨rfl,rfl⟩) k
theorem wW(hX:nU X){m p:Nat}(h:idx X.pf.R (Int.ofNat a)=some (bV M (.gL m)))(hm:M m=Int.ofNat p)(hp:a<p){sk:lg}(k:bP X p sk b):bP X a sk b:=by
 have h':idx X.pf.R (Int.ofNat a)=some (.tuple [.str jN,.int (Int.ofNat p)]):=by rw[<-hm];exact h
 exact aX hX h' (by decide) hp LA (.inr rfl) k
theorem PK(t:Th):∃w xs,bV M (dE t)=.tuple (.str w::xs)/\fb w fg=false/\Zs t=.tuple (.str w::xs):=by
 rcases t with _|_
 ·exact⟨iG,_,rfl,by decide,rfl⟩
 ·exact⟨j4,_,rfl,by decide,rfl⟩
theorem Df(hX:nU X){t:Th}(ht:gK t)(kL:st.length<=100)(h:idx X.pf.R (Int.ofNat a)=some (bV M (dE t)))(k:bP X (a+1) (.N (bD t::st)) b):bP X a (.N st) b:=by
 refine bc fun bf=>?_;obtain⟨w,xs,e,hw,e2⟩:=PK (M:=M) t;refine bf ?_;have:=NZ (C:=Run X.C2) (pf:=X.pf) (b:=b) ht (st:=st) (by omega);rw[e2]at this;exact aX hX (h.trans (congrArg some e)) hw (Nat.lt_succ_self a) this (.inl ⟨rfl,rfl⟩) k
theorem LI(hX:nU X){t:Th}{ol:List D}(ht:gK t)(h:idx X.pf.R (Int.ofNat a)=some (bV M (dE t)))(k:bP X (a+1) (.O [bD t] ol) b):bP X a (.O [] ol) b:=by
 refine bc fun bf=>?_;obtain⟨w,xs,e,hw,e2⟩:=PK (M:=M) t;refine bf ?_;have:=N0 (C:=Run X.C2) (pf:=X.pf) (b:=b) (ol:=ol) ht;rw[e2]at this;exact aX hX (h.trans (congrArg some e)) hw (Nat.lt_succ_self a) this (.inl ⟨rfl,rfl⟩) k
theorem RK(hX:nU X)(kL:st.length<=100)(h:idx X.pf.R (Int.ofNat a)=some (bV M (.obj (.ofNat 0) Bi)))(k:bP X (a+1) (.N (AF (.ofNat 0)::st)) b):bP X a (.N st) b:=
 aX hX h (by decide) (Nat.lt_succ_self a) (Dc yY (by omega)) (.inl ⟨rfl,rfl⟩) k
theorem oY{s:Str}(h:ku s):aA (.list (([s]:List Str).reverse.map PyData.str)):=mU (l:=[s]) (by simp) fun x hx=>by rw[List.mem_singleton]at hx;exact hx▸h
theorem VN(hX:nU X){o:Option Th}(ho:fw o)(kL:st.length<=90)(h:gJ X.pf.R M a (tn o))(hb:b.told.length<=a)(k:bP X (a+(tn o).length) (.N (mu o::st)) (jy b o)):bP X a (.N st) b:=by
 induction o using Option.casesOn with
 |some t=>
  obtain⟨⟨_,h1⟩,h2⟩:=h;have ht:=ho t rfl;refine Df hX ht (by omega) h1 ?_;have hl:=eX hX h2;refine aX hX h2 (by decide) (Nat.lt_succ_self _) (Fx eZ (tk:=[bD t]) (rest:=st) (aZ hb hl) rfl (by rw[List.length_append,List.length_singleton];exact ai kL) (oY (et ht)) jx) (.inl ⟨rfl,rfl⟩) ?_;exact k
 |none=>
  obtain⟨⟨⟨_,h1⟩,h2⟩,h3⟩:=h;have hl:=eX hX h3;have e3:a+([.target,.place]:List Row).length=a+2:=rfl;rw[e3]at hl;refine aX hX h1 (by decide) (Nat.lt_succ_self _) (FD (by omega)) (.inl ⟨rfl,rfl⟩) ?_;refine aX hX h2 (by decide) (Nat.lt_succ_self _) (Fw eZ (tk:=[lG]) (rest:=st) (aZ hb hl) rfl (by rw[List.length_append,List.length_singleton];exact ai kL) (oY t7) jx) (.inl ⟨rfl,rfl⟩) ?_;refine aX hX h3 (by decide) (Nat.lt_succ_self _) (ym eZ (tk:=[ip]) (rest:=st) (by show b.told.length+1<=_;exact aZ hb hl) rfl (by rw[List.length_append,List.length_singleton];exact ai kL) (oY r7) jx) (.inl ⟨rfl,rfl⟩) ?_;exact k
theorem wX(o:Option Th)(h:b.told.length<=a):(jy b o).told.length<=a+(tn o).length:=by
 induction o using Option.casesOn with
 |some t=>show b.told.length+1<=a+2;exact ai h
 |none=>show b.told.length+1+1<=a+3;exact ai h
theorem ub:∀(as:List (Option Th)) {a:Nat} {b:Bk},b.told.length<=a->(bO b as).told.length<=a+(d8 as).length:=by
 intro l0
 induction l0 with
 |nil=>
  intro _ _ h;exact h
 |cons o as ih=>
  intro a b h;have:=ih (wX o h);show(bO (jy b o) as).told.length<=a+(d8 as++tn o).length;rw[List.length_append];exact ai this
theorem RL(hX:nU X):∀(as:List (Option Th)) (a:Nat) (st:List Str) (b:Bk),(∀o∈as,fw o)->st.length+as.length<=90->gJ X.pf.R M a (d8 as)->b.told.length<=a->
  bP X (a+(d8 as).length) (.N ((as.map mu).reverse++st)) (bO b as)->bP X a (.N st) b:=by
 intro l0
 induction l0 with
 |nil=>
  intro a st b _ _ _ _ k;exact k
 |cons o as ih=>
  intro a st b ho kL h hb k;rw[List.length_cons]at kL;obtain⟨h1,h2⟩:=cw (c1:=tn o) (c2:=d8 as) h;refine VN hX (ho o List.mem_cons_self) (ai kL) h1 hb ?_;refine ih _ (mu o::st) (jy b o) (fun x hx=>ho x (List.mem_cons_of_mem _ hx)) (by rw[List.length_cons];exact ai kL) h2 (wX o hb) ?_;have e1:a+(tn o).length+(d8 as).length=a+(d8 (o::as)).length:=by
   show _=a+(d8 as++tn o).length;rw[List.length_append];omega
  have e2:(as.map mu).reverse++mu o::st=((o::as).map mu).reverse++st:=by simp
  refine az (e1) ?_;refine az (e2) ?_;exact k
theorem LJ(hX:nU X){f:Option Th}(hf:fw f)(kL:st.length<=90)(h:gJ X.pf.R M a (cg f))(k:bP X (a+bA f) (.N (jd f++st)) b):bP X a (.N st) b:=by
 induction f using Option.casesOn with
 |none=>exact k
 |some t=>exact Df hX (hf t rfl) (by omega) h.2 k
theorem gw(f:Option Th):(cg f).length=bA f:=by rcases f with _|_<;>rfl
theorem LK(hX:nU X){c:eS}(hc:gu c)(kL:st.length<=50)(h:gJ X.pf.R M a (aw c))(hb:b.told.length<=a)
  (k:bP X (a+(aw c).length) (.N ((cq st.reverse c).reverse)) (bO b c.args)):bP X a (.N st) b:=by
 unfold aw at h;obtain⟨h1,h2⟩:=cw h;obtain⟨h3,h4⟩:=cw h1;have h2c:=hc.args.1;have hf:=cT c.aP;refine Df hX hc.pre (by omega) h3.2 ?_;refine LJ hX hc.aP (by rw[List.length_cons];exact ai kL) h4 ?_;have e:a+(cg c.aP++[dE c.pre]).length=a+1+bA c.aP:=by
  rw[List.length_append,gw];simp only[List.length_singleton];omega
 rw[e]at h2;have e0:a+0+1=a+1:=rfl;refine RL hX c.args _ _ b hc.args.2 (by rw[List.length_append,kx,List.length_cons];exact jI kL h2c hf (ai hf (ai hf))) h2 (by show _<=a+1+bA c.aP;exact ai hb) ?_;have e1:a+1+bA c.aP+(d8 c.args).length=a+(aw c).length:=by
  unfold aw;rw[List.length_append,List.length_append,gw];simp only[List.length_singleton];omega
 have e2:(c.args.map mu).reverse++(jd c.aP++bD c.pre::st)=(cq st.reverse c).reverse:=by
  unfold cq;cases c.aP<;>simp[jd]
 have e1':a+([]:List Row).length+1+bA c.aP+(d8 c.args).length=a+(aw c).length:=e1;refine az (e2) ?_;rw[<-e1]at k;exact k
end
section
set_option genCtorIdx false
set_option genCtorIdx true in
inductive Way where
 |done|left|gn
noncomputable def IM:Way->D
 |.done=>.none
 |.left=>.str eN
 |.gn=>.str bz
noncomputable def tw(C:Cl)(pf:PF)(x:D)(b:Bk)(w:Way)(b':Bk):Prop:=∀(b0:Bk) (bb bC:Option aL) (γ:Nat) (Q:KV),
 (∀τ,Q (.d (IM w)) (eV pf b0 b' bb bC γ τ))->C lx [.b 11,.d x] (eV pf b0 b bb bC γ []) Q
noncomputable def oZ(C:Cl)(pf:PF)(ss:List D)(b:Bk)(w:Way)(b':Bk):Prop:=∀(b0:Bk) (bb bC:Option aL) (γ:Nat) (Q:KV),
 (∀τ,Q (.d (IM w)) (eV pf b0 b' bb bC γ τ))->C gr [.b 11,.d (.list ss)] (eV pf b0 b bb bC γ []) Q
noncomputable def Oc(C:Cl)(pf:PF)(x:D)(b:Bk)(w:Way)(b':Bk):Prop:=∀(b0:Bk) (bb bC:Option aL) (γ:Nat) (Q:KV),
 (∀τ,Q (.d (IM w)) (eV pf b0 b' bb bC γ τ))->C aV [.b 11,.d x] (eV pf b0 b bb bC γ []) Q
theorem iU:dz=bF:=by decide+kernel
theorem jY:dZ=fQ:=by decide+kernel
theorem wY:gz=jW:=by decide+kernel
theorem GY:fZ=AL:=by decide+kernel
theorem IP:eQ=tv:=by decide+kernel
theorem IQ:qx=bE++aQ:=by decide+kernel
theorem wZ:om=bw++aQ:=by decide+kernel
theorem lX:ia=cz++aQ:=by decide+kernel
theorem tA:cv=((d6++aQ)++(PyData.tuple []).shown)++aQ:=by decide+kernel
theorem yZ(a b c:Str):(a++b)++c=a++(b++c):=by
 cases a;cases b;cases c;show Str.mk _=Str.mk _
 congr 1
 exact Array.append_assoc
theorem GZ:dD=aQ++(PyData.list (([]:List Str).map PyData.str)).shown:=by decide+kernel
theorem IS:dm=cO++aQ:=by decide+kernel
theorem LL:hZ=nk++aQ:=by decide+kernel
section
variable{C:Cl}{pf:PF}{b:Bk}
theorem RN{l:Int}:tw (Run C) pf (cy (.null l)) b .done b:=by
 intro b0 bb bC γ Q k;exact k _
theorem VO{l:Int}:tw (Run C) pf (cy (.ret l)) b .left b:=by
 intro b0 bb bC γ Q k;exact k _
theorem Od(hm:MarkC C)(hs:kP C){l:Int}{t:Th}{u:Bool}(ht:gK t)(hb:b.told.length<=99000):
  tw (Run C) pf (cy (.dt l t u)) b .done ((b.tell bF).tell (aO bE [.bool u] [bD t])):=by
 intro b0 bb bC γ Q k;have hP:=AM u;have hS:=mW (et ht);refine bc fun bf=>?_;obtain⟨l1,l2,l3⟩:=yq (x:=qx) (by decide) hP hS;refine bf ?_;refine(hm pf b0 b bb bC γ _ _).2 (by omega) ?_;refine az (iU) ?_;refine⟨hP.b,?_⟩;refine⟨l1,?_⟩;refine⟨l2,?_⟩;refine hs t (eV pf b0 (b.tell bF) bb bC γ []) _ rfl ht ?_;refine⟨hS.b,?_⟩;refine⟨l3,?_⟩;refine(hm pf b0 (b.tell bF) bb bC γ _ _).2 (by show b.told.length+1<=_;exact ai hb) ?_;refine az (IQ) ?_;exact k _
noncomputable def pM:Bk->List Th->Bk
 |b,[]=>b
 |b,t::ts=>pM (b.tell (aO d6 [] [bD t])) ts
theorem AN(hm:MarkC C)(hs:kP C){l:Int}{ts:List Th}(hts:ts.length<=2)(ht:∀t∈ts,gK t)(hb:b.told.length<=98000):
  tw (Run C) pf (cy (.abort l ts)) b .done (pM b ts):=by
 intro b0 bb bC γ Q k;have S:∀t,gK t->(PyData.list [.str (bD t)]).showable=true/\(PyData.list [.str (bD t)]).hasDict=false/\(PyData.list [.str (bD t)]).depth<=20/\(PyData.list [.str (bD t)]).shown.length<=ah:=fun t h=>(mW (et h)).b;have L:∀t,gK t->cv.length+(PyData.list [.str (bD t)]).shown.length<=ah:=fun t h=>by
  have:=(mW (et h)).2.2.2;have h4:cv.length=9:=by decide
  unfold ah;exact aZ this (iq h4)
 match ts,hts,ht,k with
 |[],_,_,k=>
  exact k _
 |[t],_,ht,k=>
  have t1:=ht t (by simp);refine hs t (eV pf b0 b bb bC γ []) _ rfl t1 ?_;refine⟨S t t1,?_⟩;refine⟨L t t1,?_⟩;refine(hm pf b0 b bb bC γ (cv++(PyData.list [.str (bD t)]).shown) _).2 (by omega) ?_;refine az (tA) ?_;exact k _
 |[t,u],_,ht,k=>
  have t1:=ht t (by simp);have t2:=ht u (by simp);refine hs t (eV pf b0 b bb bC γ []) _ rfl t1 ?_;refine⟨S t t1,?_⟩;refine⟨L t t1,?_⟩;refine(hm pf b0 b bb bC γ (cv++(PyData.list [.str (bD t)]).shown) _).2 (by omega) ?_;refine az (show cv++(PyData.list [.str (bD t)]).shown=aO d6 [] [bD t]from by rw[tA];rfl) ?_;refine hs u (eV pf b0 (b.tell (aO d6 [] [bD t])) bb bC γ []) _ rfl t2 ?_;refine⟨S u t2,?_⟩;refine⟨L u t2,?_⟩;refine(hm pf b0 (b.tell (aO d6 [] [bD t])) bb bC γ (cv++(PyData.list [.str (bD u)]).shown) _).2 (by show b.told.length+1<=_;exact ai hb) ?_;refine az (tA) ?_;exact k _
 |_::_::_::_,h,_,_=>exact absurd h (by simp)
theorem w_call(hw:wO C){l:Int}{c:eS}(hc:gu c)(hb:b.told.length<=99000):tw (Run C) pf (cy (.call l c)) b .done ((bO b c.args).tell (eW none [] c)):=by
 intro b0 bb bC γ Q k;refine hw none [] l c pf b0 b bb bC γ _ hc (fun s hs=>by rcases hs with _|_) (by decide) hb ?_;exact k _
noncomputable def Oe(w:Way)(b:Bk)(x:Str):Bk:=match w with
 |.gn=>b
 |_=>b.tell x
noncomputable def VP(w:Way):Way:=match w with
 |.gn=>.gn
 |_=>.done
noncomputable def w5(e:Bool)(aP:Option Th)(fm:Bool):List D:=[.str (cE e),.int (.ofNat (bA aP)),d4 fm]
theorem Dg:∀(e fm:Bool) (f:Fin 2),aA (.tuple [.str (cE e),.int (.ofNat f.1),d4 fm]):=by unfold aA;decide+kernel
theorem Dh{f:Option Th}(h:fw f):aA (.list ((jd f).map PyData.str)):=mU (by have:=cT f;rw[kx];exact ai this) (AI h)
noncomputable def uV(b:Bk)(e:Bool)(aP:Option Th)(fm:Bool):Bk:=(b.tell bF).tell (aO bw (w5 e aP fm) (jd aP))
theorem VQ(hm:MarkC C)(hs:kP C){l:Int}{e:Bool}{aP:Option Th}{fm:Bool}{body:List D}{w:Way}{b':Bk}(hf:fw aP)(hb:b.told.length<=99000)(Bx:b'.told.length<=99000)
  (hw:oZ C pf body (uV b e aP fm) w b'):tw (Run C) pf (cy (.acc l e aP fm body)) b (VP w) (Oe w b' fQ):=by
 intro b0 bb bC γ Q k;have hP:aA (.tuple (w5 e aP fm)):=Dg e fm ⟨bA aP,cT _⟩;have hS:=Dh hf;obtain⟨l1,l2,l3⟩:=yq (x:=om) (by decide) hP hS;have fin:∀(R:ak->St->Prop),(∀ed,R ed (eV pf b0 (uV b e aP fm) bb bC γ []))->True:=fun _ _=>trivial;rcases aP with _|DN
 ·conv=>whnf
  refine(hm pf b0 b bb bC γ _ _).2 (by omega) ?_;refine az (iU) ?_;refine⟨hP.b,?_⟩;refine⟨l1,?_⟩;refine⟨l2,?_⟩;refine⟨hS.b,?_⟩;refine⟨l3,?_⟩;refine(hm pf b0 (b.tell bF) bb bC γ _ _).2 (by show b.told.length+1<=_;exact ai hb) ?_;refine az (wZ) ?_;refine hw b0 bb bC γ _ fun τ=>?_;rcases w with _|_
  ·conv=>whnf
   refine(hm pf b0 b' bb bC γ _ _).2 (by omega) ?_;refine az (jY) ?_;exact k _
  ·conv=>whnf
   refine(hm pf b0 b' bb bC γ _ _).2 (by omega) ?_;refine az (jY) ?_;exact k _
  ·conv=>whnf
   exact k _
 ·have to:gK DN:=hf _ rfl;refine hs DN (eV pf b0 b bb bC γ []) _ rfl to ?_;refine(hm pf b0 b bb bC γ _ _).2 (by omega) ?_;refine az (iU) ?_;refine⟨hP.b,?_⟩;refine⟨l1,?_⟩;refine⟨l2,?_⟩;refine⟨hS.b,?_⟩;refine⟨l3,?_⟩;refine(hm pf b0 (b.tell bF) bb bC γ _ _).2 (by show b.told.length+1<=_;exact ai hb) ?_;refine az (wZ) ?_;refine hw b0 bb bC γ _ fun τ=>?_;rcases w with _|_
  ·conv=>whnf
   refine(hm pf b0 b' bb bC γ _ _).2 (by omega) ?_;refine az (jY) ?_;exact k _
  ·conv=>whnf
   refine(hm pf b0 b' bb bC γ _ _).2 (by omega) ?_;refine az (jY) ?_;exact k _
  ·conv=>whnf
   exact k _
end
end
section
variable{C:Cl}{pf:PF}{b:Bk}
theorem Of(hm:MarkC C){l:Int}{body:List D}{w:Way}{b':Bk}(hb:b.told.length<=99000)(Bx:b'.told.length<=99000)
  (hw:oZ C pf body ((b.tell tv).tell AL) w b'):tw (Run C) pf (cy (.block l body)) b w (Oe w b' jW):=by
 intro b0 bb bC γ Q k;refine(hm pf b0 b bb bC γ _ _).2 (by omega) ?_;refine az (IP) ?_;refine(hm pf b0 (b.tell tv) bb bC γ _ _).2 (by show b.told.length+1<=_;exact ai hb) ?_;refine az (GY) ?_;refine hw b0 bb bC γ _ fun τ=>?_;rcases w with _|_
 ·conv=>whnf
  refine(hm pf b0 b' bb bC γ _ _).2 (by omega) ?_;refine az (wY) ?_;exact k _
 ·conv=>whnf
  refine(hm pf b0 b' bb bC γ _ _).2 (by omega) ?_;refine az (wY) ?_;exact k _
 ·conv=>whnf
  exact k _
noncomputable def qT:Bool->List Str
 |false=>[]
 |true=>[AF (.ofNat 0)]
noncomputable def qN:Bool->Nat
 |false=>0
 |true=>1
noncomputable def lJ(q:Bool)(aP:Option Th)(u:Bool):List D:=[.str qu,.int (.ofNat (bA aP)),.int (.ofNat (qN q)),.bool u]
theorem pa:∀(q u:Bool) (f:Fin 2),aA (.tuple [.str qu,.int (.ofNat f.1),.int (.ofNat (qN q)),.bool u]):=by unfold aA;decide+kernel
theorem se(q:Bool){f:Option Th}(h:fw f):aA (.list ((qT q++jd f).map PyData.str)):=by
 refine mU ?_ ?_
 ·have:=cT f;rw[List.length_append,kx];rcases q with _|_<;>simp only[qT,List.length_nil,List.length_singleton]<;>exact ai this (ai this)
 ·intro s hs;rcases List.mem_append.mp hs with hs|hs
  ·rcases q with _|_
   ·rcases hs with _|_
   ·rw[qT,List.mem_singleton]at hs;exact hs▸IB
  ·exact AI h s hs
theorem IT(hm:MarkC C)(hs:kP C)(hq:FF C){l:Int}{q:Bool}{aP:Option Th}{u:Bool}(hf:fw aP)(hb:b.told.length<=99000):
  tw (Run C) pf (cy (.cK l q aP u)) b .left (b.tell (aO cz (lJ q aP u) (qT q++jd aP))):=by
 intro b0 bb bC γ Q k;rcases q with _|_<;>rcases aP with _|DN
 ·have hP:aA (.tuple (lJ false none u)):=pa false u ⟨bA none,cT _⟩;have hS:aA (.list ((qT false++jd none).map PyData.str)):=se false hf;refine bc fun bf=>?_;obtain⟨l1,l2,l3⟩:=yq (x:=ia) (by decide) hP hS;refine bf ?_;refine⟨hP.b,?_⟩;refine⟨l1,?_⟩;refine⟨l2,?_⟩;refine⟨hS.b,?_⟩;refine⟨l3,?_⟩;refine(hm pf b0 b bb bC γ _ _).2 (by omega) ?_;refine az (lX) ?_;exact k _
 ·have hP:aA (.tuple (lJ false (some DN) u)):=pa false u ⟨bA (some DN),cT _⟩;have hS:aA (.list ((qT false++jd (some DN)).map PyData.str)):=se false hf;refine bc fun bf=>?_;obtain⟨l1,l2,l3⟩:=yq (x:=ia) (by decide) hP hS;refine bf ?_;refine hs DN (eV pf b0 b bb bC γ []) _ rfl (hf _ rfl) ?_;refine⟨hP.b,?_⟩;refine⟨l1,?_⟩;refine⟨l2,?_⟩;refine⟨hS.b,?_⟩;refine⟨l3,?_⟩;refine(hm pf b0 b bb bC γ _ _).2 (by omega) ?_;refine az (lX) ?_;exact k _
 ·have hP:aA (.tuple (lJ true none u)):=pa true u ⟨bA none,cT _⟩;have hS:aA (.list ((qT true++jd none).map PyData.str)):=se true hf;refine bc fun bf=>?_;obtain⟨l1,l2,l3⟩:=yq (x:=ia) (by decide) hP hS;refine bf ?_;refine hq (eV pf b0 b bb bC γ []) _ rfl ?_;refine⟨hP.b,?_⟩;refine⟨l1,?_⟩;refine⟨l2,?_⟩;refine⟨hS.b,?_⟩;refine⟨l3,?_⟩;refine(hm pf b0 b bb bC γ _ _).2 (by omega) ?_;refine az (lX) ?_;exact k _
 ·have hP:aA (.tuple (lJ true (some DN) u)):=pa true u ⟨bA (some DN),cT _⟩;have hS:aA (.list ((qT true++jd (some DN)).map PyData.str)):=se true hf;refine bc fun bf=>?_;obtain⟨l1,l2,l3⟩:=yq (x:=ia) (by decide) hP hS;refine bf ?_;refine hq (eV pf b0 b bb bC γ []) _ rfl ?_;refine hs DN (eV pf b0 b bb bC γ []) _ rfl (hf _ rfl) ?_;refine⟨hP.b,?_⟩;refine⟨l1,?_⟩;refine⟨l2,?_⟩;refine⟨hS.b,?_⟩;refine⟨l3,?_⟩;refine(hm pf b0 b bb bC γ _ _).2 (by omega) ?_;refine az (lX) ?_;exact k _
noncomputable def Chain(C:Cl)(pf:PF):List D->Bk->Way->Bk->Prop
 |[],b,w,b'=>w=.done/\b'=b
 |x::xs,b,w,b'=>b.told.length<=99000/\∃l ws ys,x=.tuple (.str ws::.int l::ys)/\Ln l/\∃w1 b1,tw C pf x (b.tell (stepT l)) w1 b1/\(match w1 with|.done=>Chain C pf xs b1 w b'|w1=>w=w1/\b'=b1)
noncomputable def w6:List T:=[.expr (.call aU [(.var aM),(.bin .add (.bin .add (.c (.str hZ)) (.str (.tup [(.sub (.var aD) (.c (.int (.ofNat 1))))]))) (.c (.str dD)))]),.asg (.x iu) (.call lx [(.var aM),(.var aD)]),.fM (.cmp .nW (.var iu) (.c .none)) [.ret (some (.var iu))] []]
noncomputable def sf(x:D)(rest:ak):ak:=(aM,.b 11)::(bo,.d x)::rest
noncomputable def AO(rest:ak):Prop:=rest=[]\/∃a c,rest=[(aD,.d a),(iu,.d c)]
theorem LM(l:Int):(hZ++(PyData.tuple [.int l]).shown)++dD=stepT l:=by
 unfold stepT aO;rw[LL,GZ,<-yZ]
theorem tB(hm:MarkC C){ss:D}{rest:ak}(d9:AO rest){l:Int}{ws:Str}{ys:List D}(hl:Ln l){w:Way}{b1:Bk}(hb:b.told.length<=99000)(hw:tw C pf (.tuple (.str ws::.int l::ys)) (b.tell (stepT l)) w b1)
  {b0:Bk} {bb bC:Option aL} {γ:Nat} {R:ak->St->Prop} {Q:KF}
  (kd:w=.done->∀aG,AO aG->R (sf ss aG) (eV pf b0 b1 bb bC γ []))
  (kr:w≠.done->∀ê,Q (.ret (.d (IM w))) ê (eV pf b0 b1 bb bC γ [])):
  bind1 [aD] (.tuple (.str ws::.int l::ys)) (sf ss rest) fun ed=>gC (ex G C 59) w6 ed (eV pf b0 b bb bC γ []) (wB R Q):=by
 have hP:=yV hl;have l1:hZ.length+(PyData.tuple [.int l]).shown.length<=ah:=by
  have:=hP.2.2.2;have h4:hZ.length=5:=by decide
  unfold ah;exact aZ this (iq h4)
 have l2:(hZ++(PyData.tuple [.int l]).shown).length+dD.length<=ah:=by
  have:=hP.2.2.2;have h4:hZ.length=5:=by decide
  have h5:dD.length=3:=by decide
  rw[strLen_append];unfold ah;exact jI this (iq h4) (iq h5)
 rcases d9 with rfl|⟨a0,c0,rfl⟩
 all_goals
  refine⟨hP.b,?_⟩;refine⟨l1,?_⟩;refine⟨l2,?_⟩;refine(hm pf b0 b bb bC γ ((hZ++(PyData.tuple [.int l]).shown)++dD) _).2 (by omega) ?_;rw[LM];refine hw b0 bb bC γ _ fun τ=>?_;rcases w with _|_
  ·conv=>whnf
   exact kd rfl [(aD,.d (.tuple (.str ws::.int l::ys))),(iu,.d .none)] (.inr ⟨_,_,rfl⟩)
  ·conv=>whnf
   exact kr (by intro h;rcases h with _|_) _
  ·conv=>whnf
   exact kr (by intro h;rcases h with _|_) _
theorem IU(hm:MarkC C){ss:D}{b0:Bk}{bb bC:Option aL}{γ:Nat}{Q:KF}{w:Way}{b':Bk}(kd:w=.done->∀aG,AO aG->Q .next (sf ss aG) (eV pf b0 b' bb bC γ []))
  (kr:w≠.done->∀ê,Q (.ret (.d (IM w))) ê (eV pf b0 b' bb bC γ [])):∀(xs:List D) (rest:ak) (b:Bk),AO rest->Chain C pf xs b w b'->
  forL (ex G C 59) [aD] w6 none xs (sf ss rest) (eV pf b0 b bb bC γ []) Q:=by
 intro l0
 induction l0 with
 |nil=>
  intro rest b hr h;refine bc fun bf=>?_;obtain⟨rfl,rfl⟩:=h;refine bf ?_;exact kd rfl rest hr
 |cons x xs ih=>
  intro rest b hr h;refine bc fun bf=>?_;obtain⟨hb,l,ws,ys,rfl,hl,w1,b1,hw,h⟩:=h;refine bf ?_;refine az (dn) ?_
  induction w1 using Way.casesOn with
  |done=>exact tB hm hr hl hb hw (fun _ aG je=>ih aG b1 je h) (fun z=>absurd rfl z)
  |left=>
   refine bc fun bf=>?_;obtain⟨rfl,rfl⟩:=h;refine bf ?_;exact tB hm hr hl hb hw (fun z=>by rcases z with _|_) (fun z ê=>kr z ê)
  |gn=>
   refine bc fun bf=>?_;obtain⟨rfl,rfl⟩:=h;refine bf ?_;exact tB hm hr hl hb hw (fun z=>by rcases z with _|_) (fun z ê=>kr z ê)
theorem Og(hm:MarkC C){ss:List D}{w:Way}{b':Bk}(hlen:ss.length<=100)(h:Chain C pf ss b w b'):oZ (Run C) pf ss b w b':=by
 intro b0 bb bC γ Q k;show gC (ex G C 60) ([.gQ [aD] (.var bo) w6]++[.ret (some (.c .none))]) (sf (.list ss) []) (eV pf b0 b bb bC γ []) (fS Q);refine bq fun R hR=>?_;refine ju fun F hF=>?_;refine aj (by unfold ah;omega) ?_;refine hF _ _ _ ?_;refine IU hm (fun e aG je=>?_) (fun e ê=>?_) ss [] b (.inl rfl) h
 ·subst e;refine hR _ _ ?_;exact k _
 ·rcases w with _|_
  ·exact absurd rfl e
  ·exact k _
  ·exact k _
end
section
variable{C:Cl}{pf:PF}{b:Bk}
theorem nO{x:D}{xs:List D}{w:Way}{b':Bk}(hx:x=.tuple (.str bB::xs))(h:Oc C pf x b w b'):tw (Run C) pf x b w b':=by
 subst hx;intro b0 bb bC γ Q k;refine h b0 bb bC γ _ fun τ=>?_;rcases w with _|_
 ·conv=>whnf
  exact k _
 ·conv=>whnf
  exact k _
 ·conv=>whnf
  exact k _
noncomputable def cU(b:Bk)(how:Option Bool)(ahead:List Str)(c:eS):Bk:=((bO (b.tell bF) c.args).tell (eW (some how) ahead c)).ask
theorem RO(hm:MarkC C)(hr:mq C)(hw:wO C){l:Int}{c:eS}{body o:List D}{w:Way}{b':Bk}(hc:gu c)(hb:b.told.length<=98000)(ha:pf.gI.natAbs<=ah)
  (h0:iC pf.gI (cU b none [] c).asked (Int.ofNat 2)=Int.ofNat 0->oZ C pf o (cU b none [] c) w b')
  (h1:¬iC pf.gI (cU b none [] c).asked (Int.ofNat 2)=Int.ofNat 0->oZ C pf body (cU b none [] c) w b'):Oc (Run C) pf (cy (.rU l c body o)) b w b':=by
 intro b0 bb bC γ Q k;refine(hm pf b0 b bb bC γ _ _).2 (by omega) ?_;refine az (iU) ?_;refine hw (some none) [] l c pf b0 (b.tell bF) bb bC γ _ hc (fun s hs=>by rcases hs with _|_) (by decide) (by show b.told.length+1<=_;exact ai hb) ?_;refine(hr pf b0 ((bO (b.tell bF) c.args).tell (eW (some none) [] c)) bb bC γ (Int.ofNat 2) _ (by decide) ha).2 ?_
 conv=>whnf
 split
 ·rename_i hd;refine h0 (of_decide_eq_true hd) b0 bb bC γ _ fun τ=>?_;rcases w with _|_
  ·exact k _
  ·exact k _
  ·exact k _
 ·rename_i hd;refine h1 (of_decide_eq_false hd) b0 bb bC γ _ fun τ=>?_;rcases w with _|_
  ·exact k _
  ·exact k _
  ·exact k _
theorem RP(hm:MarkC C)(hs:kP C)(hr:mq C)(hw:wO C){l l':Int}{c:eS}{t:Th}{u:Bool}{body o:List D}{w:Way}{b':Bk}(hc:gu c)(ht:gK t)(hb:b.told.length<=98000)(ha:pf.gI.natAbs<=ah)
  (h0:iC pf.gI (cU b (some u) [bD t] c).asked (Int.ofNat 2)=Int.ofNat 0->oZ C pf o (cU b (some u) [bD t] c) w b')
  (h1:¬iC pf.gI (cU b (some u) [bD t] c).asked (Int.ofNat 2)=Int.ofNat 0->oZ C pf body (cU b (some u) [bD t] c) w b'):Oc (Run C) pf (cy (.pY l c body l' t u o)) b w b':=by
 intro b0 bb bC γ Q k;rcases u with _|_
 ·conv=>whnf
  refine(hm pf b0 b bb bC γ _ _).2 (by omega) ?_;refine az (iU) ?_;refine hs t (eV pf b0 (b.tell bF) bb bC γ []) _ rfl ht ?_;refine hw (some (some false)) [bD t] l c pf b0 (b.tell bF) bb bC γ _ hc (fun s hs=>by rw[List.mem_singleton]at hs;exact hs▸et ht) (by simp) (by show b.told.length+1<=_;exact ai hb) ?_;refine(hr pf b0 ((bO (b.tell bF) c.args).tell (eW (some (some false)) [bD t] c)) bb bC γ (Int.ofNat 2) _ (by decide) ha).2 ?_
  conv=>whnf
  split
  ·rename_i hd;refine h0 (of_decide_eq_true hd) b0 bb bC γ _ fun τ=>?_;rcases w with _|_
   ·exact k _
   ·exact k _
   ·exact k _
  ·rename_i hd;refine h1 (of_decide_eq_false hd) b0 bb bC γ _ fun τ=>?_;rcases w with _|_
   ·exact k _
   ·exact k _
   ·exact k _
 ·conv=>whnf
  refine(hm pf b0 b bb bC γ _ _).2 (by omega) ?_;refine az (iU) ?_;refine hs t (eV pf b0 (b.tell bF) bb bC γ []) _ rfl ht ?_;refine hw (some (some true)) [bD t] l c pf b0 (b.tell bF) bb bC γ _ hc (fun s hs=>by rw[List.mem_singleton]at hs;exact hs▸et ht) (by simp) (by show b.told.length+1<=_;exact ai hb) ?_;refine(hr pf b0 ((bO (b.tell bF) c.args).tell (eW (some (some true)) [bD t] c)) bb bC γ (Int.ofNat 2) _ (by decide) ha).2 ?_
  conv=>whnf
  split
  ·rename_i hd;refine h0 (of_decide_eq_true hd) b0 bb bC γ _ fun τ=>?_;rcases w with _|_
   ·exact k _
   ·exact k _
   ·exact k _
  ·rename_i hd;refine h1 (of_decide_eq_false hd) b0 bb bC γ _ fun τ=>?_;rcases w with _|_
   ·exact k _
   ·exact k _
   ·exact k _
noncomputable def RQ:Option Th->Str
 |none=>aI
 |some t=>bD t
noncomputable def jH:cR->Option Bool
 |.acc g _ _ _ _ _ _=>g
 |.dt g _ _ _ _=>g
 |.term g _=>g
noncomputable def ka(a:cR):Bool:=match jH a with
 |some false=>false
 |_=>true
noncomputable def nP:cR->Str
 |.acc _ _ e aP _ _ _=>iT bN [.str (cE e),.int (.ofNat (bA aP))] (RQ aP)
 |.dt _ _ t u _=>iT de [.bool u] (bD t)
 |.term _ _=>iT eH [] aI
noncomputable def opens:Nat->List cR->List D
 |_,[]=>[]
 |i,a::l=>match ka a with
  |true=>lH i (nP a)::opens (i+1) l
  |false=>opens (i+1) l
noncomputable def eE:Nat->Nat->List D
 |_,0=>[]
 |i,k+1=>.int (Int.ofNat i)::eE (i+1) k
theorem tC:∀(k i:Nat),(List.range' i k).map (fun(n:Nat)=>PyData.int (n:Int))=eE i k
 |0,_=>rfl
 |k+1,i=>by
  show PyData.int (i:Int)::(List.range' (i+1) k).map _=_;refine az (tC k (i+1)) ?_;rfl
theorem mX(k:Nat):eM k=eE 0 k:=by
 unfold eM;rw[List.range_eq_range',tC]
theorem Di:gy=bN++aQ:=by decide+kernel
theorem w7:ji=de++aQ:=by decide+kernel
theorem Dj:gH=iT eH [] aI:=by decide+kernel
theorem AP:∀(e:Bool) (f:Fin 2),aA (.tuple [.str (cE e),.int (.ofNat f.1)]):=by unfold aA;decide+kernel
theorem RR{x:Str}{p:D}{y:Str}(h:x.length<=100)(hp:aA p)(hy:y.length<=5000):x.length+p.shown.length<=ah/\(x++p.shown).length+aQ.length<=ah/\((x++p.shown)++aQ).length+y.length<=ah:=by
 have h1:=hp.2.2.2;have h3:aQ.length=1:=by decide
 rw[strLen_append (x++p.shown),strLen_append x];unfold ah;exact⟨aZ h h1,jI h h1 (iq h3),uK h hy h1 (iq h3)⟩
end
section
variable{C:Cl}{pf:PF}{b:Bk}
noncomputable def kindS:cR->Str
 |.acc _ _ _ _ _ _ _=>bw
 |.dt _ _ _ _ _=>bE
 |.term _ _=>kj
noncomputable def nV:cR->D
 |.acc _ l e aP fm body _=>qJ l e aP fm body
 |.dt _ l t u _=>jt l t u
 |.term _ _=>.none
noncomputable def p7:cR->List D
 |.acc _ _ _ _ _ _ r=>r
 |.dt _ _ _ _ r=>r
 |.term _ r=>r
theorem uW(a:cR):eJ a=.tuple [oR (jH a),.str (kindS a),nV a,.list (p7 a)]:=by rcases a with _|_<;>rfl
noncomputable def lK(x:D)(l:Int)(alts:List D)(other:D)(rest:ak):ak:=(aM,.b 11)::(aD,.d x)::(bH,.d (.str bB))::(ba,.d (.int l))::(aC,.d (.list alts))::(dq,.d other)::(bT,.t 0)::rest
noncomputable def PL(a b c d e:D):ak:=[(aW,.d a),(fq,.d b),(cJ,.d c),(bI,.d d),(bo,.d e)]
noncomputable def Oh(a b c d e f:D):ak:=[(aW,.d a),(fq,.d b),(cJ,.d c),(bI,.d d),(bo,.d e),(cI,.d f)]
noncomputable def sg(rest:ak):Prop:=rest=[]\/(∃a b c d e,rest=PL a b c d e)\/(∃a b c d e f,rest=Oh a b c d e f)
noncomputable def ky:List T:=[.asg (.tup [fq,cJ,bI,bo]) (.sub (.var aC) (.var aW)),.fM (.cx (.cmp .nW (.var fq) (.c .none)) (.cmp .eq (.sub (.var fq) (.c (.int (.ofNat 2)))) (.c (.int (.ofNat 0))))) [.cont] [],.fM (.cmp .eq (.var cJ) (.c (.str bw))) [.asg (.x cI) (.ite (.cmp .is (.sub (.var bI) (.c (.int (.ofNat 3)))) (.c .none)) (.c (.str aI)) (.call cW [(.sub (.var bI) (.c (.int (.ofNat 3))))])),.expr (.append (.var bT) (.tup [(.var aW),(.bin .add (.bin .add (.bin .add (.c (.str gy)) (.str (.tup [(.sub (.var bI) (.c (.int (.ofNat 2)))),(.ite (.cmp .is (.sub (.var bI) (.c (.int (.ofNat 3)))) (.c .none)) (.c (.int (.ofNat 0))) (.c (.int (.ofNat 1))))]))) (.c (.str aQ))) (.var cI))]))] [.fM (.cmp .eq (.var cJ) (.c (.str bE))) [.expr (.append (.var bT) (.tup [(.var aW),(.bin .add (.bin .add (.bin .add (.c (.str ji)) (.str (.tup [(.sub (.var bI) (.c (.int (.ofNat 3))))]))) (.c (.str aQ))) (.call cW [(.sub (.var bI) (.c (.int (.ofNat 2))))]))]))] [.expr (.append (.var bT) (.tup [(.var aW),(.c (.str gH))]))]]]
noncomputable def iN:cR->Prop
 |.acc _ _ _ aP _ _ _=>fw aP
 |.dt _ _ t _ _=>gK t
 |.term _ _=>True
theorem IW(hs:kP C){x:D}{l:Int}{alts:List D}{other:D}{rest:ak}{i:Nat}{a:cR}{g:D}(d9:rest=PL (.int (Int.ofNat i)) g (.str (kindS a)) (nV a) (.list (p7 a))\/∃f,rest=Oh (.int (Int.ofNat i)) g (.str (kindS a)) (nV a) (.list (p7 a)) f)(ha:iN a)
  {b0:Bk} {bb bC:Option aL} {γ:Nat} {r:List D} (hr:r.length<=1000) {R:ak->St->Prop} {Q:KF} (k:∀aG,sg aG->R (lK x l alts other aG) (eV pf b0 b bb bC γ [.list [] (lH i (nP a)::r)])):
  gC (ex G C 59) (ky.drop 2) (lK x l alts other rest) (eV pf b0 b bb bC γ [.list [] r]) (wB R Q):=by
 have je:0+r.length<ah:=by unfold ah;exact ai hr
 induction a using cR.casesOn with
 |acc g0 l0 e aP fm body rr=>
  have hP:aA (.tuple [.str (cE e),.int (.ofNat (bA aP))]):=AP e ⟨bA aP,cT _⟩;rcases aP with _|DN
  ·obtain⟨l1,l2,l3⟩:=RR (x:=gy) (y:=aI) (by decide) hP (by decide);rcases d9 with rfl|⟨f,rfl⟩
   all_goals
    refine⟨hP.b,?_⟩;refine⟨l1,?_⟩;refine⟨l2,?_⟩;refine⟨l3,?_⟩;refine⟨je,?_⟩;refine az (Di) ?_;exact k (Oh _ _ _ _ _ (.str aI)) (.inr (.inr ⟨_,_,_,_,_,_,rfl⟩))
  ·have to:gK DN:=ha _ rfl;obtain⟨l1,l2,l3⟩:=RR (x:=gy) (y:=bD DN) (by decide) hP (et to).2;rcases d9 with rfl|⟨f,rfl⟩
   all_goals
    refine hs DN (eV pf b0 b bb bC γ []) _ rfl to ?_;refine⟨hP.b,?_⟩;refine⟨l1,?_⟩;refine⟨l2,?_⟩;refine⟨l3,?_⟩;refine⟨je,?_⟩;refine az (Di) ?_;exact k (Oh _ _ _ _ _ (.str (bD DN))) (.inr (.inr ⟨_,_,_,_,_,_,rfl⟩))
 |dt g0 l0 t u rr=>
  have hP:=AM u;obtain⟨l1,l2,l3⟩:=RR (x:=ji) (y:=bD t) (by decide) hP (et ha).2;rcases d9 with rfl|⟨f,rfl⟩
  ·conv=>whnf
   refine⟨hP.b,?_⟩;refine⟨l1,?_⟩;refine⟨l2,?_⟩;refine hs t (eV pf b0 b bb bC γ []) _ rfl ha ?_;refine⟨l3,?_⟩;refine⟨je,?_⟩;refine az (w7) ?_;exact k (PL _ _ _ _ _) (.inr (.inl ⟨_,_,_,_,_,rfl⟩))
  ·conv=>whnf
   refine⟨hP.b,?_⟩;refine⟨l1,?_⟩;refine⟨l2,?_⟩;refine hs t (eV pf b0 b bb bC γ []) _ rfl ha ?_;refine⟨l3,?_⟩;refine⟨je,?_⟩;refine az (w7) ?_;exact k (Oh _ _ _ _ _ _) (.inr (.inr ⟨_,_,_,_,_,_,rfl⟩))
 |term g0 rr=>
  rcases d9 with rfl|⟨f,rfl⟩
  ·conv=>whnf
   refine⟨je,?_⟩;refine az (Dj) ?_;exact k (PL _ _ _ _ _) (.inr (.inl ⟨_,_,_,_,_,rfl⟩))
  ·conv=>whnf
   refine⟨je,?_⟩;refine az (Dj) ?_;exact k (Oh _ _ _ _ _ _) (.inr (.inr ⟨_,_,_,_,_,_,rfl⟩))
noncomputable def fy(i:Nat)(a:cR)(r:List D):List D:=match ka a with
 |true=>lH i (nP a)::r
 |false=>r
theorem IY(hs:kP C){x:D}{l:Int}{alts:List D}{other:D}{rest:ak}{i:Nat}{a:cR}(d9:sg rest)(ha:iN a)(hi:i<=90)(hx:idx alts (Int.ofNat i)=some (eJ a))
  {b0:Bk} {bb bC:Option aL} {γ:Nat} {r:List D} (hr:r.length<=1000) {R:ak->St->Prop} {Q:KF} (k:∀aG,sg aG->R (lK x l alts other aG) (eV pf b0 b bb bC γ [.list [] (fy i a r)])):
  bind1 [aW] (.int (Int.ofNat i)) (lK x l alts other rest) fun ed=>gC (ex G C 59) ky ed (eV pf b0 b bb bC γ [.list [] r]) (wB R Q):=by
 rw[uW]at hx;have tail:(ka a=true)->∀aG,(aG=PL (.int (Int.ofNat i)) (oR (jH a)) (.str (kindS a)) (nV a) (.list (p7 a))\/∃f,aG=Oh (.int (Int.ofNat i)) (oR (jH a)) (.str (kindS a)) (nV a) (.list (p7 a)) f)->
   gC (ex G C 59) (ky.drop 2) (lK x l alts other aG) (eV pf b0 b bb bC γ [.list [] r]) (wB R Q):=fun ho aG uB=>by
  refine IW hs uB ha hr fun gX h2=>?_;have:=k gX h2;unfold fy at this;rw[ho]at this;exact this
 show gC (ex G C 59) (ky.take 2++ky.drop 2) (jb aW (.d (.int (Int.ofNat i))) (lK x l alts other rest)) (eV pf b0 b bb bC γ [.list [] r]) (wB R Q);refine bq fun R2 t6=>?_;have pb:ka a=match jH a with|some false=>false|_=>true:=rfl
 unfold fy at k;cases hg:jH a with
 |none=>
  rw[hg]at hx pb tail;rcases d9 with rfl|⟨a0,c0,d0,e0,f0,rfl⟩|⟨a0,c0,d0,e0,f0,g0,rfl⟩
  ·conv=>whnf
   refine az (hx) ?_;refine aj (by unfold ah;omega) ?_;exact t6 _ _ (tail pb _ (.inl rfl))
  ·conv=>whnf
   refine az (hx) ?_;refine aj (by unfold ah;omega) ?_;exact t6 _ _ (tail pb _ (.inl rfl))
  ·conv=>whnf
   refine az (hx) ?_;refine aj (by unfold ah;omega) ?_;exact t6 _ _ (tail pb _ (.inr ⟨g0,rfl⟩))
 |some g=>
  rw[hg]at hx pb tail;rcases g with _|_
  ·have pb:ka a=false:=pb;rw[pb]at k;rcases d9 with rfl|⟨a0,c0,d0,e0,f0,rfl⟩|⟨a0,c0,d0,e0,f0,g0,rfl⟩
   ·conv=>whnf
    refine az (hx) ?_;refine aj (by unfold ah;omega) ?_;exact k (PL _ _ _ _ _) (.inr (.inl ⟨_,_,_,_,_,rfl⟩))
   ·conv=>whnf
    refine az (hx) ?_;refine aj (by unfold ah;omega) ?_;exact k (PL _ _ _ _ _) (.inr (.inl ⟨_,_,_,_,_,rfl⟩))
   ·conv=>whnf
    refine az (hx) ?_;refine aj (by unfold ah;omega) ?_;exact k (Oh _ _ _ _ _ _) (.inr (.inr ⟨_,_,_,_,_,_,rfl⟩))
  ·rcases d9 with rfl|⟨a0,c0,d0,e0,f0,rfl⟩|⟨a0,c0,d0,e0,f0,g0,rfl⟩
   ·conv=>whnf
    refine az (hx) ?_;refine aj (by unfold ah;omega) ?_;exact t6 _ _ (tail pb _ (.inl rfl))
   ·conv=>whnf
    refine az (hx) ?_;refine aj (by unfold ah;omega) ?_;exact t6 _ _ (tail pb _ (.inl rfl))
   ·conv=>whnf
    refine az (hx) ?_;refine aj (by unfold ah;omega) ?_;exact t6 _ _ (tail pb _ (.inr ⟨g0,rfl⟩))
theorem AQ{α:Type}(p:List α)(x:α)(q:List α):idx (p++x::q) (Int.ofNat p.length)=some x:=by
 show aq (p++x::q) p.length=some x;rw[mQ];simp
theorem IZ(hs:kP C){x:D}{l:Int}{alts:List D}{other:D}{b0:Bk}{bb bC:Option aL}{γ:Nat}{Q:KF}:∀(as pre:List cR) (rest:ak) (r:List D),alts=(pre++as).map eJ->sg rest->(∀a∈as,iN a)->pre.length+as.length<=50->r.length+as.length<=900->
  (∀aG,sg aG->Q .next (lK x l alts other aG) (eV pf b0 b bb bC γ [.list [] ((opens pre.length as).reverse++r)]))->
  forL (ex G C 59) [aW] ky none (eE pre.length as.length) (lK x l alts other rest) (eV pf b0 b bb bC γ [.list [] r]) Q:=by
 intro l0
 induction l0 with
 |nil=>
  intro pre rest r ha hr _ _ _ k;exact k rest hr
 |cons a as ih=>
  intro pre rest r ha hr hl h1 h2 k;rw[List.length_cons]at h1 h2;have hx:idx alts (Int.ofNat pre.length)=some (eJ a):=by
   have:=AQ (pre.map eJ) (eJ a) (as.map eJ);rw[List.length_map]at this;refine az (ha) ?_;refine az (List.map_append) ?_;refine az (List.map_cons) ?_;exact this
  show forL (ex G C 59) [aW] ky none (.int (Int.ofNat pre.length)::eE (pre.length+1) as.length) (lK x l alts other rest) (eV pf b0 b bb bC γ [.list [] r]) Q;refine az (dn) ?_;refine IY hs hr (hl a List.mem_cons_self) (ai h1) hx (ai h2) fun aG je=>?_;have e:pre.length+1=(pre++[a]).length:=by rw[List.length_append];rfl
  refine az (e) ?_;have hlen:(fy pre.length a r).length<=r.length+1:=by
   unfold fy;split
   ·rw[List.length_cons];omega
   ·omega
  refine ih (pre++[a]) aG _ (by rw[ha,List.append_assoc];rfl) je (fun y hy=>hl y (List.mem_cons_of_mem _ hy)) (by rw[<-e];exact ai h1) (aZ h2 hlen) fun gX uB=>?_;have:=k gX uB;refine Jn (e) ?_;have e2:(opens (pre.length+1) as).reverse++fy pre.length a r=(opens pre.length (a::as)).reverse++r:=by
   unfold fy;show _=(match ka a with|true=>lH pre.length (nP a)::opens (pre.length+1) as|false=>opens (pre.length+1) as).reverse++r;cases ka a<;>simp
  refine az (e2) ?_;exact this
end
noncomputable def si(x:Str):Prop:=∀c∈x.cps.toList,c<16 ^ 8
theorem si.app{x y:Str}(h:si x)(k:si y):si (x++y):=by
 intro c hc;have:(x++y).cps.toList=x.cps.toList++y.cps.toList:=by
  cases x;cases y;exact Array.toList_append
 rw[this]at hc;rcases List.mem_append.mp hc with hc|hc
 ·exact h c hc
 ·exact k c hc
theorem AR{i:Nat}{x:Str}(hi:i<=100)(hc:si x)(hx:x.length<=300):uC (lH i x):=by
 obtain⟨a,c⟩:=C3 (l:=Int.ofNat i) (by show i<=100000;omega);refine⟨?_,?_,?_,?_⟩
 ·simp only[lH,PyData.showable,PyData.showableAll,Bool.and_true]at a⊢;exact a
 ·simp[lH,PyData.hasDict,PyData.hasDictAll]
 ·simp[lH,PyData.depth,PyData.depthAll]
 ·simp only[lH,PyData.shown,PyData.shownAll];have h:=StrLaws.reprText_len x hc;have e:=join_length_add [((toString (Int.ofNat i):String):Str),reprText x] (by simp);unfold tupleText;rw[strLen_append,strLen_append];have h1:(("(" :String):Str).length=1:=by decide
  have h3:((if[((toString (Int.ofNat i):String):Str),reprText x].length==1 then ",)" else ")" :String):Str).length=1:=by
   show(((")" :String)):Str).length=1;decide
  have e':(Str.join (", " :String) [((toString (Int.ofNat i):String):Str),reprText x]).length+2=(((toString (Int.ofNat i):String):Str).length+2)+((reprText x).length+2):=by
   rw[e];simp[piled];try omega
  omega
theorem Oi:∀(e:Bool) (f:Fin 2),si (((bN++aQ)++(PyData.tuple [.str (cE e),.int (.ofNat f.1)]).shown)++aQ)/\(((bN++aQ)++(PyData.tuple [.str (cE e),.int (.ofNat f.1)]).shown)++aQ).length<=100:=by unfold si;decide+kernel
theorem I0:∀(u:Bool),si (((de++aQ)++(PyData.tuple [.bool u]).shown)++aQ)/\(((de++aQ)++(PyData.tuple [.bool u]).shown)++aQ).length<=100:=by unfold si;decide+kernel
theorem G0:si (iT eH [] aI)/\(iT eH [] aI).length<=100:=by unfold si;decide+kernel
theorem PM:∀t∈wK,si (bD t)/\(bD t).length<=100:=by unfold si;decide+kernel
theorem RS{f:Option Th}(h:fw f):si (RQ f)/\(RQ f).length<=100:=by
 induction f using Option.casesOn with
 |none=>exact⟨fun c hc=>(by rcases hc with _|_),by decide⟩
 |some t=>exact PM t (mn (h t rfl))
theorem RT{i:Nat}(hi:i<3){a:cR}(ha:iN a):uC (lH i (nP a)):=by
 induction a using cR.casesOn with
 |acc g l e aP fm body r=>
  obtain⟨h1,h2⟩:=Oi e ⟨bA aP,cT _⟩;obtain⟨h3,h4⟩:=RS ha;refine AR (ai hi) (h1.app h3) ?_;show(iT _ _ _).length<=300;unfold iT;rw[strLen_append];have yI:(((bN++aQ)++(PyData.tuple [.str (cE e),.int (.ofNat (bA aP))]).shown)++aQ).length<=100:=h2;omega
 |dt g l t u r=>
  obtain⟨h1,h2⟩:=I0 u;obtain⟨h3,h4⟩:=PM t (mn ha);refine AR (ai hi) (h1.app h3) ?_;show(iT _ _ _).length<=300;unfold iT;rw[strLen_append];omega
 |term g r=>exact AR (ai hi) G0.1 (by have:=G0.2;show(iT eH [] aI).length<=300;omega)
theorem w8:∀(as:List cR) (i:Nat),i+as.length<=3->(∀a∈as,iN a)->(∀d∈opens i as,uC d)/\(opens i as).length<=as.length:=by
 intro l0
 induction l0 with
 |nil=>
  intro _ _ _;exact⟨fun d hd=>(by rcases hd with _|_),Nat.le_refl _⟩
 |cons a as ih=>
  intro i h ha;rw[List.length_cons]at h;obtain⟨h1,h2⟩:=ih (i+1) (ai h) fun x hx=>ha x (List.mem_cons_of_mem _ hx);unfold opens;split
  ·refine⟨fun d hd=>?_,by rw[List.length_cons,List.length_cons];exact ai h2⟩;rcases List.mem_cons.mp hd with rfl|hd
   ·exact RT (ai h) (ha a List.mem_cons_self)
   ·exact h1 d hd
  ·exact⟨h1,by rw[List.length_cons];exact ai h2⟩
theorem w9{as:List cR}(h:as.length<=3)(ha:∀a∈as,iN a):aA (.list (opens 0 as)):=by
 obtain⟨h1,h2⟩:=w8 as 0 (ai h) ha;exact yU (aZ h h2) h1
section
variable{C:Cl}{pf:PF}{b:Bk}
noncomputable def cj(b:Bk)(as:List cR)(o:Option (List D)):Bk:=(b.tell bF).tell (gv o.isSome (opens 0 as))
theorem FJ(hm:MarkC C)(hs:kP C){l:Int}{as:List cR}{o:Option (List D)}(qQ:as≠[])(hlen:as.length<=3)(ha:∀a∈as,iN a)(hb:b.told.length<=98000)
  {b0:Bk} {bb bC:Option aL} {γ:Nat} {R:ak->St->Prop} {Q:KF} (k:∀rest,sg rest->R (lK (cy (.sel l as o)) l (as.map eJ) (rT o) rest) (eV pf b0 (cj b as o) bb bC γ [.yu (.list (opens 0 as))])):
  gC (ex G C 60) ((P.code aV).take 6) [(aM,.b 11),(aD,.d (cy (.sel l as o)))] (eV pf b0 b bb bC γ []) (ML R Q):=by
 show gC (ex G C 60) ((P.code aV).take 3++((P.code aV).drop 3).take 3) [(aM,.b 11),(aD,.d (cy (.sel l as o)))] (eV pf b0 b bb bC γ []) (ML R Q);refine bq fun R2 t6=>?_;obtain⟨a,G1,rfl⟩:∃a G1,as=a::G1:=by
  induction as using List.casesOn with
  |nil=>exact absurd rfl qQ
  |cons a G1=>exact⟨a,G1,rfl⟩
 have go:R2 [(aM,.b 11),(aD,.d (cy (.sel l (a::G1) o))),(bH,.d (.str bB)),(ba,.d (.int l)),(aC,.d (.list ((a::G1).map eJ))),(dq,.d (rT o))] (eV pf b0 (b.tell bF) bb bC γ []):=by
  refine t6 _ _ ?_;have e:((P.code aV).drop 3).take 3=[.asg (.x bT) (.lst .Be [])]++([.gQ [aW] (.su (.len (.var aC))) ky]++[.expr (.call aU [(.var aM),(.bin .add (.bin .add (.bin .add (.c (.str eG)) (.str (.cmp .nW (.var dq) (.c .none)))) (.c (.str aQ))) (.str (.var bT)))])]):=rfl;refine az (e) ?_;refine bq fun R3 NV=>?_;refine NV (lK (cy (.sel l (a::G1) o)) l ((a::G1).map eJ) (rT o) []) (eV pf b0 (b.tell bF) bb bC γ [.list [] []]) ?_;refine bq fun R4 Zr=>?_;refine ju fun F hF=>?_;refine aj (by rw[List.length_map];unfold ah;omega) ?_;refine aj (by rw[List.length_map];unfold ah;omega) ?_;refine hF _ _ _ ?_;rw[mX,List.length_map];refine IZ (x:=cy (.sel l (a::G1) o)) (l:=l) (other:=rT o) hs (a::G1) [] [] [] rfl (.inl rfl) ha (by rw[List.length_nil];exact ai hlen) (by rw[List.length_nil];exact ai hlen) fun aG je=>?_;refine Zr _ _ ?_;have hS:=w9 hlen ha;have eo:((opens ([]:List cR).length (a::G1)).reverse++[]).reverse=opens 0 (a::G1):=by simp
  have kk:=k aG je
  induction o using Option.casesOn with
  |none=>
   obtain⟨l1,l2,l3⟩:=tr (b:=false) hS;rcases je with rfl|⟨a0,c0,d0,e0,f0,rfl⟩|⟨a0,c0,d0,e0,f0,g0,rfl⟩
   all_goals
    conv=>whnf
    refine⟨l1,?_⟩
    conv=>whnf
    refine⟨l2,?_⟩
    conv=>whnf
    refine az (eo) ?_;refine⟨hS.b,?_⟩;refine⟨l3,?_⟩;refine(hm pf b0 (b.tell bF) bb bC γ (gv false (opens 0 (a::G1))) _).2 (by show b.told.length+1<=_;exact ai hb) ?_;exact kk
  |some s=>
   obtain⟨l1,l2,l3⟩:=tr (b:=true) hS;rcases je with rfl|⟨a0,c0,d0,e0,f0,rfl⟩|⟨a0,c0,d0,e0,f0,g0,rfl⟩
   all_goals
    conv=>whnf
    refine⟨l1,?_⟩
    conv=>whnf
    refine⟨l2,?_⟩
    conv=>whnf
    refine az (eo) ?_;refine⟨hS.b,?_⟩;refine⟨l3,?_⟩;refine(hm pf b0 (b.tell bF) bb bC γ (gv true (opens 0 (a::G1))) _).2 (by show b.told.length+1<=_;exact ai hb) ?_;exact kk
 rcases a with _|_
 all_goals
  refine(hm pf b0 b bb bC γ _ _).2 (by omega) ?_;refine az (iU) ?_;exact go
end
section
variable{C:Cl}{pf:PF}{b:Bk}
noncomputable def xa(fm:Bool):Str:=aO cO [d4 fm] []
noncomputable def sj(C:Cl)(pf:PF)(a:cR)(b:Bk)(w:Way)(b':Bk):Prop:=match a with
 |.acc _ _ _ _ fm body r=>∃w1 b1,oZ C pf body (b.tell (xa fm)) w1 b1/\b1.told.length<=98000/\(match w1 with|.gn=>w=.gn/\b'=b1|_=>oZ C pf r (b1.tell fQ) w b')
 |.dt _ _ _ _ r=>oZ C pf r b w b'
 |.term _ r=>oZ C pf r b w b'
theorem I4(fm:Bool):(dm++(PyData.tuple [d4 fm]).shown)++dD=xa fm:=by
 unfold xa aO;rw[IS,GZ,<-yZ]
theorem I8(fm:Bool):dm.length+(PyData.tuple [d4 fm]).shown.length<=ah/\(dm++(PyData.tuple [d4 fm]).shown).length+dD.length<=ah:=by
 have:∀fm,dm.length+(PyData.tuple [d4 fm]).shown.length<=ah/\(dm++(PyData.tuple [d4 fm]).shown).length+dD.length<=ah:=by decide+kernel
 exact this fm
theorem Dk(hm:MarkC C)(hr:mq C){x:D}{l:Int}{as:List cR}{ol:List D}{other:D}{rest:ak}(d9:sg rest){i j:Nat}{a:cR}{tx:Str}{w:Way}{b':Bk}(hb:b.told.length<=98000)(ha:pf.gI.natAbs<=ah)(hlen:ol.length<=1000)(RE:0<ol.length)
  (hj:iC pf.gI b.ask.asked (Int.ofNat ol.length)=Int.ofNat j) (hj9:j<=90) (hi9:i<=90) (hx:idx ol (Int.ofNat j)=some (lH i tx)) (hi:idx (as.map eJ) (Int.ofNat i)=some (eJ a)) (hc:sj C pf a b.ask w b')
  {b0:Bk} {bb bC:Option aL} {γ:Nat} {Q:KV} (k:∀τ,Q (.d (IM w)) (eV pf b0 b' bb bC γ τ)):
  gC (ex G C 60) ((P.code aV).drop 7) (lK x l (as.map eJ) other rest) (eV pf b0 b bb bC γ [.yu (.list ol)]) (fS Q):=by
 have VR:j<=ah:=by unfold ah;omega
 have MM:i<=ah:=by unfold ah;omega
 have pI:ol.length<=ah:=by unfold ah;omega
 have e:(P.code aV).drop 7=((P.code aV).drop 7).take 1++(P.code aV).drop 8:=rfl;refine az (e) ?_;refine bq fun R hR=>?_;have tail:∀aG,(∃at_,aG=PL at_ (oR (jH a)) (.str (kindS a)) (nV a) (.list (p7 a))\/∃f,aG=Oh at_ (oR (jH a)) (.str (kindS a)) (nV a) (.list (p7 a)) f)\/(aG=[(fq,.d (oR (jH a))),(cJ,.d (.str (kindS a))),(bI,.d (nV a)),(bo,.d (.list (p7 a)))])->
   R (lK x l (as.map eJ) other aG) (eV pf b0 b.ask bb bC γ [.yu (.list ol)]):=by
  intro aG uB;refine hR _ _ ?_
  induction a using cR.casesOn with
  |dt g l0 t u r=>
   rcases uB with⟨at_,rfl|⟨f,rfl⟩⟩|rfl
   all_goals
    refine hc b0 bb bC γ _ fun τ=>?_;rcases w with _|_
    ·exact k _
    ·exact k _
    ·exact k _
  |term g r=>
   rcases uB with⟨at_,rfl|⟨f,rfl⟩⟩|rfl
   all_goals
    refine hc b0 bb bC γ _ fun τ=>?_;rcases w with _|_
    ·exact k _
    ·exact k _
    ·exact k _
  |acc g l0 e0 aP fm body r=>
   obtain⟨w1,b1,h1,h2,h3⟩:=hc;obtain⟨l1,l2⟩:=I8 fm;have hP:=GX fm;rcases uB with⟨at_,rfl|⟨f,rfl⟩⟩|rfl
   all_goals
    refine⟨hP.b,?_⟩;refine⟨l1,?_⟩;refine⟨l2,?_⟩;refine(hm pf b0 b.ask bb bC γ ((dm++(PyData.tuple [d4 fm]).shown)++dD) _).2 (by show b.told.length<=_;omega) ?_;rw[I4];refine h1 b0 bb bC γ _ fun τ=>?_;rcases w1 with _|_
    ·conv=>whnf
     refine(hm pf b0 b1 bb bC γ _ _).2 (by omega) ?_;refine az (jY) ?_;refine h3 b0 bb bC γ _ fun τ=>?_;rcases w with _|_
     ·exact k _
     ·exact k _
     ·exact k _
    ·conv=>whnf
     refine(hm pf b0 b1 bb bC γ _ _).2 (by omega) ?_;refine az (jY) ?_;refine h3 b0 bb bC γ _ fun τ=>?_;rcases w with _|_
     ·exact k _
     ·exact k _
     ·exact k _
    ·obtain⟨rfl,rfl⟩:=h3;exact k _
 have ind:∀(aG:ak) (v:D),v=.tuple [oR (jH a),.str (kindS a),nV a,.list (p7 a)]->True:=fun _ _ _=>trivial;rw[uW]at hi;rcases d9 with rfl|⟨a0,c0,d0,e0,f0,rfl⟩|⟨a0,c0,d0,e0,f0,g0,rfl⟩
 ·conv=>whnf
  refine aj pI ?_;refine(hr pf b0 b bb bC γ (Int.ofNat ol.length) _ (by show(0:Int)<(ol.length:Int);omega) ha).2 ?_;refine az (hj) ?_
  conv=>whnf
  refine az (hx) ?_;refine aj VR ?_
  conv=>whnf
  refine az (hi) ?_;refine aj MM ?_;exact tail _ (.inr rfl)
 ·conv=>whnf
  refine aj pI ?_;refine(hr pf b0 b bb bC γ (Int.ofNat ol.length) _ (by show(0:Int)<(ol.length:Int);omega) ha).2 ?_;refine az (hj) ?_
  conv=>whnf
  refine az (hx) ?_;refine aj VR ?_
  conv=>whnf
  refine az (hi) ?_;refine aj MM ?_;exact tail _ (.inl ⟨_,.inl rfl⟩)
 ·conv=>whnf
  refine aj pI ?_;refine(hr pf b0 b bb bC γ (Int.ofNat ol.length) _ (by show(0:Int)<(ol.length:Int);omega) ha).2 ?_;refine az (hj) ?_
  conv=>whnf
  refine az (hx) ?_;refine aj VR ?_
  conv=>whnf
  refine az (hi) ?_;refine aj MM ?_;exact tail _ (.inl ⟨_,.inr ⟨_,rfl⟩⟩)
noncomputable def VS(C:Cl)(pf:PF)(as:List cR)(o:Option (List D))(b:Bk)(w:Way)(b':Bk):Prop:=
 (∃s,isNil (opens 0 as)=true/\o=some s/\oZ C pf s (cj b as o) w b')\/
 (isNil (opens 0 as)=true/\o=none/\w=.gn/\b'=cj b as o)\/
 (∃s,isNil (opens 0 as)=false/\o=some s/\iC pf.gI (cj b as o).ask.asked (Int.ofNat 3)=Int.ofNat 0/\oZ C pf s (cj b as o).ask w b')\/
 (∃s i j a tx,isNil (opens 0 as)=false/\o=some s/\¬iC pf.gI (cj b as o).ask.asked (Int.ofNat 3)=Int.ofNat 0/\iC pf.gI (cj b as o).ask.ask.asked (Int.ofNat (opens 0 as).length)=Int.ofNat j/\j<=90/\i<=90/\
  idx (opens 0 as) (Int.ofNat j)=some (lH i tx)/\idx (as.map eJ) (Int.ofNat i)=some (eJ a)/\sj C pf a (cj b as o).ask.ask w b')\/
 (∃i j a tx,isNil (opens 0 as)=false/\o=none/\iC pf.gI (cj b as o).ask.asked (Int.ofNat (opens 0 as).length)=Int.ofNat j/\j<=90/\i<=90/\
  idx (opens 0 as) (Int.ofNat j)=some (lH i tx)/\idx (as.map eJ) (Int.ofNat i)=some (eJ a)/\sj C pf a (cj b as o).ask w b')
theorem tD{α:Type}{l:List α}(h:isNil l=false):0<l.length:=by
 induction l using List.casesOn with
 |nil=>cases h
 |cons x l=>exact Nat.succ_pos _
theorem VT(hm:MarkC C)(hs:kP C)(hr:mq C){l:Int}{as:List cR}{o:Option (List D)}{w:Way}{b':Bk}(qQ:as≠[])(hlen:as.length<=3)(MN:∀a∈as,iN a)(hb:b.told.length<=97000)(ha:pf.gI.natAbs<=ah)
  (h:VS C pf as o b w b'):Oc (Run C) pf (cy (.sel l as o)) b w b':=by
 intro b0 bb bC γ Q k;have DM:=(w8 as 0 (ai hlen) MN).2;have PN:(cj b as o).told.length<=98000:=by show b.told.length+1+1<=_;exact ai hb
 show gC (ex G C 60) ((P.code aV).take 6++(P.code aV).drop 6) [(aM,.b 11),(aD,.d (cy (.sel l as o)))] (eV pf b0 b bb bC γ []) (fS Q);refine bq fun R hR=>?_;refine FJ hm hs qQ hlen MN (by omega) fun rest d9=>?_;refine hR _ _ ?_;have e:(P.code aV).drop 6=((P.code aV).drop 6).take 1++(P.code aV).drop 7:=rfl;refine az (e) ?_;refine bq fun R2 t6=>?_;rcases h with⟨s,h1,rfl,h2⟩|⟨h1,rfl,rfl,rfl⟩|⟨s,h1,rfl,h2,h3⟩|⟨s,i,j,a,tx,h1,rfl,h2,h3,h4,h5,h6,h7,h8⟩|⟨i,j,a,tx,h1,rfl,h3,h4,h5,h6,h7,h8⟩
 ·rcases d9 with rfl|⟨a0,c0,d0,e0,f0,rfl⟩|⟨a0,c0,d0,e0,f0,g0,rfl⟩
  all_goals
   conv=>whnf
   refine az (h1) ?_
   conv=>whnf
   refine h2 b0 bb bC γ _ fun τ=>?_;rcases w with _|_
   ·exact k _
   ·exact k _
   ·exact k _
 ·rcases d9 with rfl|⟨a0,c0,d0,e0,f0,rfl⟩|⟨a0,c0,d0,e0,f0,g0,rfl⟩
  all_goals
   conv=>whnf
   refine az (h1) ?_
   conv=>whnf
   exact k _
 ·rcases d9 with rfl|⟨a0,c0,d0,e0,f0,rfl⟩|⟨a0,c0,d0,e0,f0,g0,rfl⟩
  all_goals
   conv=>whnf
   refine az (h1) ?_;refine(hr pf b0 (cj b as (some s)) bb bC γ (Int.ofNat 3) _ (by decide) ha).2 ?_;refine az (h2) ?_;refine h3 b0 bb bC γ _ fun τ=>?_;rcases w with _|_
   ·exact k _
   ·exact k _
   ·exact k _
 ·have go:∀rest,sg rest->R2 (lK (cy (.sel l as (some s))) l (as.map eJ) (rT (some s)) rest) (eV pf b0 (cj b as (some s)).ask bb bC γ [.yu (.list (opens 0 as))]):=fun rest d9=>
   t6 _ _ (Dk (b:=(cj b as (some s)).ask) hm hr d9 PN ha (aZ hlen DM) (tD h1) h3 h4 h5 h6 h7 h8 k)
  rcases d9 with rfl|⟨a0,c0,d0,e0,f0,rfl⟩|⟨a0,c0,d0,e0,f0,g0,rfl⟩
  ·conv=>whnf
   refine az (h1) ?_;refine(hr pf b0 (cj b as (some s)) bb bC γ (Int.ofNat 3) _ (by decide) ha).2 ?_
   conv=>whnf
   split
   ·rename_i hd;exact absurd (of_decide_eq_true hd) h2
   ·conv=>whnf
    exact go _ (.inl rfl)
  ·conv=>whnf
   refine az (h1) ?_;refine(hr pf b0 (cj b as (some s)) bb bC γ (Int.ofNat 3) _ (by decide) ha).2 ?_
   conv=>whnf
   split
   ·rename_i hd;exact absurd (of_decide_eq_true hd) h2
   ·conv=>whnf
    exact go _ (.inr (.inl ⟨_,_,_,_,_,rfl⟩))
  ·conv=>whnf
   refine az (h1) ?_;refine(hr pf b0 (cj b as (some s)) bb bC γ (Int.ofNat 3) _ (by decide) ha).2 ?_
   conv=>whnf
   split
   ·rename_i hd;exact absurd (of_decide_eq_true hd) h2
   ·conv=>whnf
    exact go _ (.inr (.inr ⟨_,_,_,_,_,_,rfl⟩))
 ·have go:∀rest,sg rest->R2 (lK (cy (.sel l as none)) l (as.map eJ) (rT none) rest) (eV pf b0 (cj b as none) bb bC γ [.yu (.list (opens 0 as))]):=fun rest d9=>
   t6 _ _ (Dk hm hr d9 PN ha (aZ hlen DM) (tD h1) h3 h4 h5 h6 h7 h8 k)
  rcases d9 with rfl|⟨a0,c0,d0,e0,f0,rfl⟩|⟨a0,c0,d0,e0,f0,g0,rfl⟩
  ·conv=>whnf
   refine az (h1) ?_;exact go _ (.inl rfl)
  ·conv=>whnf
   refine az (h1) ?_;exact go _ (.inr (.inl ⟨_,_,_,_,_,rfl⟩))
  ·conv=>whnf
   refine az (h1) ?_;exact go _ (.inr (.inr ⟨_,_,_,_,_,_,rfl⟩))
end
noncomputable def FK:Bk->Nat->Bk
 |b,0=>b
 |b,k+1=>FK (b.tell jW) k
theorem sm:∀(k:Nat) (b:Bk),(FK b k).told.length=b.told.length+k
 |0,_=>rfl
 |k+1,b=>by
  show(FK (b.tell jW) k).told.length=_;rw[sm k];show b.told.length+1+k=_;omega
noncomputable def fL(pf:PF)(D0:Nat)(x:D)(b:Bk)(w:Way)(b':Bk):Prop:=∀d,D0<=d->tw (Cd G P d) pf x b w b'
noncomputable def WalkL(pf:PF)(D0:Nat)(ss:List D)(b:Bk)(w:Way)(b':Bk):Prop:=∀d,D0<=d->oZ (Cd G P d) pf ss b w b'
noncomputable def After(X:PX)(M:Nat->Int)(a a':Nat)(kQ:Option (Nat×Nat))(b:Bk)(w:Way)(b':Bk):Prop:=match w with
 |.done=>b'.told.length<=a'/\(bP X a' (.N []) b'->bP X a (.N []) b)
 |.left=>∃m k p,kQ=some (m,k)/\M m=Int.ofNat p/\(FK b' k).told.length<=p/\p<=90000/\(bP X p (.N []) (FK b' k)->bP X a (.N []) b)
 |.gn=>b'.told.length<=90000/\(X.NA b'->bP X a (.N []) b)
noncomputable def lL(M:Nat->Int)(kQ:Option (Nat×Nat))(a':Nat):Prop:=∀m k,kQ=some (m,k)->∃p:Nat,M m=Int.ofNat p/\a'<=p/\p<=90000
noncomputable def VU(X:PX)(M:Nat->Int)(D0 a a':Nat)(kQ:Option (Nat×Nat))(x:D):Prop:=lL M kQ a'->∀b,b.told.length<=a->∃w b',fL X.pf D0 x b w b'/\After X M a a' kQ b w b'
noncomputable def G2(X:PX)(M:Nat->Int)(D0 a a':Nat)(kQ:Option (Nat×Nat))(ss:List D):Prop:=lL M kQ a'->∀b,b.told.length<=a->∃w b',WalkL X.pf D0 ss b w b'/\After X M a a' kQ b w b'
theorem After.told{X:PX}{M:Nat->Int}{a a':Nat}{kQ:Option (Nat×Nat)}{b b':Bk}{w:Way}(h:After X M a a' kQ b w b')(ha:a'<=90000):b'.told.length<=90000:=by
 induction w using Way.casesOn with
 |done=>have:=h.1;exact aZ ha this
 |left=>
  obtain⟨m,k,p,_,_,h1,h2,_⟩:=h;rw[sm]at h1;exact aZ h1 h2
 |gn=>exact h.1
theorem After.pre{X:PX}{M:Nat->Int}{a0 a a':Nat}{kQ:Option (Nat×Nat)}{b0 b b':Bk}{w:Way}(h:After X M a a' kQ b w b')(k:bP X a (.N []) b->bP X a0 (.N []) b0):After X M a0 a' kQ b0 w b':=by
 induction w using Way.casesOn with
 |done=>exact⟨h.1,fun z=>k (h.2 z)⟩
 |left=>
  obtain⟨m,n,p,e,em,h1,h2,h3⟩:=h;exact⟨m,n,p,e,em,h1,h2,fun z=>k (h3 z)⟩
 |gn=>exact⟨h.1,fun z=>k (h.2 z)⟩
theorem After.post{X:PX}{M:Nat->Int}{a a1 a':Nat}{kQ:Option (Nat×Nat)}{b b1:Bk}{w:Way}(h:After X M a a1 kQ b w b1)(k:w=.done->b1.told.length<=a1->b1.told.length<=a'/\(bP X a' (.N []) b1->bP X a1 (.N []) b1)):After X M a a' kQ b w b1:=by
 induction w using Way.casesOn with
 |done=>obtain⟨k1,k2⟩:=k rfl h.1;exact⟨k1,fun z=>h.2 (k2 z)⟩
 |left=>exact h
 |gn=>exact h
noncomputable def iV(m1 m2:List Int):Prop:=m1.length<=m2.length/\∀m,m<m1.length->gd m2 m=gd m1 m
theorem iV.refl(m:List Int):iV m m:=⟨Nat.le_refl _,fun _ _=>rfl⟩
theorem iV.trans{m1 m2 m3:List Int}(h:iV m1 m2)(k:iV m2 m3):iV m1 m3:=⟨Nat.le_trans h.1 k.1,fun m hm=>(k.2 m (Nat.lt_of_lt_of_le hm h.1)).trans (h.2 m hm)⟩
theorem iV.new(m1:List Int)(x:Int):iV m1 (x::m1):=⟨Nat.le_succ _,fun m hm=>jw x hm⟩
theorem iV.set{m1 m2:List Int}(h:iV m1 m2){m:Nat}(v:Int)(hm:m1.length<=m)(PO:m<m2.length):iV m1 (eU m2 m v):=
 ⟨by rw[aE];exact h.1,fun j hj=>by rw[dJ v PO (Nat.lt_of_lt_of_le hj h.1),if_neg (by exact Nat.ne_of_gt (aZ hm hj))];exact h.2 j hj⟩
noncomputable def lP(M:Nat->Int)(n:Nat)(m2:List Int):Prop:=∀m,n<=m->m<m2.length->gd m2 m=M m
noncomputable def BS:Nat->Nat
 |0=>16
 |n+1=>6*BS n+200
noncomputable def tE(aB:List (Nat×Nat))(av:Nat):Option (Nat×Nat):=match aB with
 |[]=>none
 |p::_=>some (p.1,av-p.2)
noncomputable def so(n:Nat):Row->Prop
 |.gL m=>m<n
 |.j9 m=>m<n
 |.bu _ _ _ _ m=>m<n
 |.select _ ms m=>((∀k∈ms,k<n)/\ms.length<=50)/\m<n
 |_=>True
noncomputable def jz(n:Nat):List Row->Prop
 |[]=>True
 |x::l=>so n x/\jz n l
theorem so.mono{n n':Nat}(h:n<=n'):∀{x:Row},so n x->so n' x:=by
 intro x hx;rcases x with _|_<;>first|exact Nat.lt_of_lt_of_le hx h|trivial|exact⟨⟨fun k hk=>Nat.lt_of_lt_of_le (hx.1.1 k hk) h,hx.1.2⟩,Nat.lt_of_lt_of_le hx.2 h⟩
theorem jz.mono{n n':Nat}(h:n<=n'):∀{l:List Row},jz n l->jz n' l:=by
 intro l0
 induction l0 with
 |nil=>
  intro _;exact trivial
 |cons x0 Jq ih=>
  intro hl;exact⟨hl.1.mono h,ih hl.2⟩
theorem jz.app{n:Nat}:∀{a b:List Row},jz n a->jz n b->jz n (a++b):=by
 intro l0
 induction l0 with
 |nil=>
  intro _ _ h;exact h
 |cons x0 Jq ih=>
  intro _ ha hb;exact⟨ha.1,ih ha.2 hb⟩
theorem sq(n:Nat)(t:Th):so n (dE t):=by rcases t with _|_<;>trivial
theorem AS(n:Nat)(f:Option Th):jz n (cg f):=by
 induction f using Option.casesOn with
 |none=>trivial
 |some t=>exact⟨sq n t,trivial⟩
theorem AU(n:Nat):∀l:List (Option Th),jz n (d8 l)
 |[]=>trivial
 |none::l=>(AU n l).app ⟨trivial,trivial,trivial,trivial⟩
 |some t::l=>(AU n l).app ⟨trivial,sq n t,trivial⟩
theorem G3(n:Nat)(c:eS):jz n (aw c):=(AU n _).app ((AS n _).app ⟨sq n _,trivial⟩)
theorem AV(n:Nat):∀k:Nat,jz n (List.replicate k .bL)
 |0=>trivial
 |k+1=>⟨trivial,AV n k⟩
structure Piece(Gd:PX->(Nat->Int)->Nat->Nat->Option (Nat×Nat)->Prop)(N:Nat)(aB:List (Nat×Nat))(av:Nat)(rr:List Row)(mr:List Int)(new:List Row)(gN:List Int):Prop where
 len:new.length<=N
 jZ:gN.length<=mr.length+N
 keep:iV mr gN
 FL:jz gN.length new
 good:∀X M,nU X->gJ X.pf.R M rr.length new->lP M mr.length gN->Gd X M rr.length (rr.length+new.length) (tE aB av)
noncomputable def Dl(aB:List (Nat×Nat))(av:Nat)(mr:List Int):Prop:=∀p∈aB,p.2<=av/\p.1<mr.length
noncomputable def DL(n:Nat):Nat:=10*n+10
noncomputable def AW(n N:Nat)(f:SF):=Piece (fun X M a a' kQ=>VU X M (DL n-1) a a' kQ (cy f)) N
noncomputable def qM(n N:Nat)(ss:List D):=Piece (fun X M a a' kQ=>G2 X M (DL n) a a' kQ ss) N
noncomputable def fnOf:SF->Nat
 |.call _ _=>ie
 |.acc _ _ _ _ _=>gD
 |.rU _ _ _ _=>gE
 |.pY _ _ _ _ _ _ _=>gE
 |.sel _ _ _=>gE
 |.block _ _=>ib
 |.dt _ _ _=>kW
 |.abort _ _=>kY
 |.cK _ _ _ _=>f7
 |.ret _=>j6
 |.null _=>lR
structure Pre(n:Nat)(sv:Bool)(rr:List Row)(mr:List Int)(aB:List (Nat×Nat))(av:Nat):Prop where
 rl:rr.length+2*BS n<=90000
 ml:mr.length+2*BS n<=90000
 sv:sv=true->aB≠[]
 bl:av+n<=5
 ac:Dl aB av mr
 al:aB.length+n<=10
structure Oj(n:Nat)(sv:Bool)(rr:List Row)(mr:List Int)(aB:List (Nat×Nat))(av:Nat):Prop where
 rl:rr.length+4*BS n+10<=90000
 ml:mr.length+4*BS n+10<=90000
 sv:sv=true->aB≠[]
 bl:av+n<=5
 ac:Dl aB av mr
 al:aB.length+n<=10
theorem Zu{α:Type}{rr:List α}{k m:Nat}(h:(rr.drop 1).length+k<=m):rr.length+k<=m+1:=by
 rcases rr with _|⟨x,l⟩
 ·exact Nat.le_succ_of_le h
 ·show l.length+1+k<=m+1;rw[Nat.add_right_comm];exact Nat.succ_le_succ h
theorem Xh{α:Type}{rr:List α}{a b c:Nat}(h:a+1<=rr.length+b+c):a<=(rr.drop 1).length+b+c:=by
 rcases rr with _|⟨x,l⟩
 ·exact Nat.le_of_succ_le h
 ·have h:a+1<=l.length+1+b+c:=h;rw[Nat.add_right_comm l.length,Nat.add_right_comm (l.length+b)]at h;exact Nat.le_of_succ_le_succ h
noncomputable def uF(n:Nat)(C:Cl)(sv:Bool)(f:SF):Prop:=∀(fr:Fr) (rr:List Row) (mr:List Int) (aB:List (Nat×Nat)) (av γ:Nat) (Q:KV),Pre n sv rr mr aB av->
 (∀new gN gG τ,AW n (BS n-1) f aB av rr mr new gN->Q (.d .none) (cS fr (new++rr) gN aB 0 av gG τ))->C (fnOf f) [.b 4,.d (cy f)] (cS fr rr mr aB 0 av γ []) Q
noncomputable def uG(n:Nat)(C:Cl)(sv:Bool)(ss:List D):Prop:=∀(fr:Fr) (rr:List Row) (mr:List Int) (aB:List (Nat×Nat)) (av γ:Nat) (Q:KV),Oj n sv rr mr aB av->
 (∀new gN gG τ,qM n (2*BS n) ss aB av rr mr new gN->Q (.d .none) (cS fr (new++rr) gN aB 0 av gG τ))->C bW [.b 4,.d (.list ss)] (cS fr rr mr aB 0 av γ []) Q
section
variable{X:PX}{M:Nat->Int}{a:Nat}{b:Bk}
theorem Ol(hX:nU X){t:Th}{u:Bool}(ht:gK t)(h:idx X.pf.R (Int.ofNat a)=some (bV M (.dt u)))(hb:b.told.length<=a)(k:bP X (a+1) (.N []) (b.tell (aO bE [.bool u] [bD t]))):bP X a (.N [bD t]) b:=
 have hl:=eX hX h
 aX hX h (by decide) (Nat.lt_succ_self a) (IE eZ (tk:=[bD t]) (rest:=[]) (aZ hb hl) rfl (by simp) (oY (et ht)) (AM u)) (.inl ⟨rfl,rfl⟩) k
theorem AX(hX:nU X){t:Th}(ht:gK t)(h:idx X.pf.R (Int.ofNat a)=some (bV M .abort))(hb:b.told.length<=a)(k:bP X (a+1) (.N []) (b.tell (aO d6 [] [bD t]))):bP X a (.N [bD t]) b:=
 have hl:=eX hX h
 aX hX h (by decide) (Nat.lt_succ_self a) (IF eZ (tk:=[bD t]) (rest:=[]) (aZ hb hl) rfl (by simp) (oY (et ht)) jx) (.inl ⟨rfl,rfl⟩) k
theorem uX(l:List Str):lg.N (l++[])=.N l:=by rw[List.append_nil]
theorem LN(hX:nU X){e:Bool}{aP:Option Th}{fm:Bool}(hf:fw aP)(h:idx X.pf.R (Int.ofNat a)=some (bV M (.accept (cE e) (bA aP) (d4 fm))))(hb:b.told.length<=a)(k:bP X (a+1) (.N []) (b.tell (aO bw (w5 e aP fm) (jd aP)))):bP X a (.N (jd aP)) b:=by
 have hl:=eX hX h;have hr:(jd aP).reverse=jd aP:=by rcases aP with _|_<;>rfl
 have hs:aA (.list ((jd aP).reverse.map PyData.str)):=by rw[hr];exact Dh hf
 have:=cT aP;have hd:=Fz (C:=Run X.C2) (pf:=X.pf) eZ (tk:=jd aP) (rest:=[]) (b:=b) (f:=bA aP) (e:=cE e) (fm:=d4 fm) (aZ hb hl) (kx aP) (by rw[List.append_nil,kx];exact ai this) hs (Dg e fm ⟨bA aP,cT _⟩);rw[hr,uX]at hd;exact aX hX h (by decide) (Nat.lt_succ_self a) hd (.inl ⟨rfl,rfl⟩) k
theorem I9(hX:nU X){q:Bool}{aP:Option Th}{u:Bool}(hf:fw aP)(h:idx X.pf.R (Int.ofNat a)=some (bV M (.cK qu (bA aP) (qN q) u)))(hb:b.told.length<=a)(k:bP X (a+1) (.N []) (b.tell (aO cz (lJ q aP u) (qT q++jd aP)))):bP X a (.N (jd aP++qT q)) b:=by
 have hl:=eX hX h;have hr:(jd aP++qT q).reverse=qT q++jd aP:=by rcases aP with _|_<;>rcases q with _|_<;>rfl
 have hs:aA (.list ((jd aP++qT q).reverse.map PyData.str)):=by rw[hr];exact se q hf
 have:=cT aP;have hq:(qT q).length=qN q:=by rcases q with _|_<;>rfl
 have hq2:qN q<=1:=by rcases q with _|_<;>decide
 have hd:=C8 (C:=Run X.C2) (pf:=X.pf) eZ (tk:=jd aP++qT q) (rest:=[]) (b:=b) (f:=bA aP) (p:=qN q) (e:=qu) (u:=u) (by omega) (by rw[List.length_append,kx,hq]) (by rw[List.append_nil,List.length_append,kx,hq];exact aZ this hq2 (ai this (ai this))) hs (pa q u ⟨bA aP,cT _⟩);rw[hr,uX]at hd;exact aX hX h (by decide) (Nat.lt_succ_self a) hd (.inl ⟨rfl,rfl⟩) k
theorem RU(c:eS):i8 c none=[.str (cE c.ent),.int (.ofNat (bA c.aP)),.int (.ofNat c.args.length)]:=rfl
theorem Dn(hX:nU X){c:eS}(hc:gu c)(h:idx X.pf.R (Int.ofNat a)=some (bV M (.jU (cE c.ent) (bA c.aP) c.args.length)))(hb:b.told.length<=a)(k:bP X (a+1) (.N []) (b.tell (eW none [] c))):bP X a (.N (cq [] c).reverse) b:=by
 have hl:=eX hX h;have hr:(cq [] c).reverse.reverse=cq [] c:=List.reverse_reverse _;have hS:=lI hc (ahead:=[]) (fun s hs=>by rcases hs with _|_) (by decide);have hP:=nN hc none;rw[RU]at hP;have h2:=hc.args.1;have h3:=cT c.aP;have hd:=yo (C:=Run X.C2) (pf:=X.pf) eZ (tk:=(cq [] c).reverse) (rest:=[]) (b:=b) (f:=bA c.aP) (c:=c.args.length) (e:=cE c.ent) (by omega) (by rw[List.length_reverse,iL,List.length_nil];omega) (by rw[List.append_nil,List.length_reverse,iL,List.length_nil];exact aZ h2 h3 (ai h3 (ai h3))) (by rw[hr];exact hS) hP;rw[hr,uX]at hd;exact aX hX h (by decide) (Nat.lt_succ_self a) hd (.inl ⟨rfl,rfl⟩) k
theorem RV(c:eS)(how:Option Bool):i8 c (some how)=[.str (cE c.ent),.int (.ofNat (bA c.aP)),.int (.ofNat c.args.length),.str (qL how)]:=rfl
theorem Ja(hX:nU X){c:eS}{how:Option Bool}{ahead:List Str}{m p:Nat}(hc:gu c)(RG:∀s∈ahead,ku s)(p6:ahead.length=C4 how)(h:idx X.pf.R (Int.ofNat a)=some (bV M (.bu (cE c.ent) (bA c.aP) c.args.length how m)))(hm:M m=Int.ofNat p)(hp:a<p)(hb:b.told.length<=a)
  (k0:iC X.pf.gI (b.tell (eW (some how) ahead c)).ask.asked (Int.ofNat 2)=Int.ofNat 0->bP X p (.N []) (b.tell (eW (some how) ahead c)).ask)
  (k1:¬iC X.pf.gI (b.tell (eW (some how) ahead c)).ask.asked (Int.ofNat 2)=Int.ofNat 0->bP X (a+1) (.N []) (b.tell (eW (some how) ahead c)).ask):bP X a (.N (cq ahead c).reverse) b:=by
 have hl:=eX hX h;have hr:(cq ahead c).reverse.reverse=cq ahead c:=List.reverse_reverse _;have hn:C4 how<=1:=by rcases how with _|_<;>simp[C4]
 have hS:=lI hc RG (aZ (iq p6) hn);have hP:=nN hc (some how);rw[RV]at hP;have h2:=hc.args.1;have h3:=cT c.aP;have hd:=C9 (C:=Run X.C2) (pf:=X.pf) eZ r8 (tk:=(cq ahead c).reverse) (rest:=[]) (b:=b) (f:=bA c.aP) (c:=c.args.length) (e:=cE c.ent) (how:=how) (m:=M m) (by omega) (by rw[List.length_reverse,iL];exact Nat.le_antisymm (ai (iq p6)) (ai (xC p6))) (by rw[List.append_nil,List.length_reverse,iL];exact uK (iq p6) hn h2 h3 (ai h3 (ai h3))) (by rw[hr];exact hS) hP hX.gI;rw[hr,uX]at hd;by_cases hz:iC X.pf.gI b.ask.asked (Int.ofNat 2)=Int.ofNat 0
 ·rw[yW hz,hm]at hd;rw[<-hm]at hd;refine aX hX h (by decide) hp hd (.inr (by rw[hm])) (k0 hz)
 ·rw[wL hz]at hd;exact aX hX h (by decide) (Nat.lt_succ_self a) hd (.inl ⟨rfl,rfl⟩) (k1 hz)
theorem uc(hX:nU X):∀(k a:Nat) (b:Bk),gJ X.pf.R M a (List.replicate k .bL)->b.told.length<=a->bP X (a+k) (.N []) (FK b k)->bP X a (.N []) b
 |0,_,_,_,_,h=>h
 |k+1,a,b,hf,hb,h=>by
  have e:List.replicate (k+1) Row.bL=List.replicate k .bL++[.bL]:=List.replicate_succ';rw[e]at hf;obtain⟨h1,h2⟩:=cw hf;refine wV hX h1.2 hb ?_;refine uc hX k (a+1) (b.tell jW) h2 (by show b.told.length+1<=_;exact ai hb) ?_;refine az (show a+1+k=a+(k+1) by omega) ?_;exact h
end
theorem jA:∀{d:Nat},1<=d->MarkC (Cd G P d)
 |0,h=>absurd h (by decide)
 |_+1,_=>eZ
theorem AY:∀{d:Nat},1<=d->mq (Cd G P d)
 |0,h=>absurd h (by decide)
 |_+1,_=>r8
theorem mz:∀{d:Nat},1<=d->kP (Cd G P d)
 |0,h=>absurd h (by decide)
 |_+1,_=>RF
theorem Om:∀{d:Nat},1<=d->FF (Cd G P d)
 |0,h=>absurd h (by decide)
 |_+1,_=>N2
theorem Oo:∀{d:Nat},2<=d->FH (Cd G P d)
 |0,h=>absurd h (by decide)
 |_+1,h=>N6 (mz (ai h)) (jA (ai h))
theorem AZ:∀{d:Nat},3<=d->wO (Cd G P d)
 |0,h=>absurd h (by decide)
 |_+1,h=>N9 (mz (ai h)) (jA (ai h)) (Oo (ai h))
structure iy(C:Cl):Prop where
 lay:tj C
 new:Ry C
 put:Rz C
 VV:GQ C
 RW:GR C
 target:pL C
 family:uT C
 actuals:r6 C
 xb:tq C
theorem iy.val{C:Cl}(h:iy C):CX C:=Lu h.VV h.RW
theorem A0:∀{d:Nat},1<=d->wI (Cd G P d)
 |0,h=>absurd h (by decide)
 |_+1,_=>NT
theorem VW:∀{d:Nat},2<=d->Rx (Cd G P d)
 |0,h=>absurd h (by decide)
 |_+1,h=>VF (A0 (ai h))
theorem ud:∀{d:Nat},3<=d->tj (Cd G P d)
 |0,h=>absurd h (by decide)
 |_+1,h=>VG (VW (ai h))
theorem VX:∀{d:Nat},1<=d->Ry (Cd G P d)
 |0,h=>absurd h (by decide)
 |_+1,_=>VH
theorem VY:∀{d:Nat},1<=d->Rz (Cd G P d)
 |0,h=>absurd h (by decide)
 |_+1,_=>VI
theorem LO:∀{d:Nat},4<=d->Az (Cd G P d)
 |0,h=>absurd h (by decide)
 |_+1,h=>Lr (ud (ai h))
theorem LQ:∀{d:Nat},4<=d->AA (Cd G P d)
 |0,h=>absurd h (by decide)
 |_+1,h=>Ls (ud (ai h))
theorem FN:∀{d:Nat},4<=d->tm (Cd G P d)
 |0,h=>absurd h (by decide)
 |_+1,h=>Fq (ud (ai h))
theorem LR:∀{d:Nat},5<=d->GQ (Cd G P d)
 |0,h=>absurd h (by decide)
 |_+1,h=>RA (LO (ai h))
theorem LS:∀{d:Nat},5<=d->GR (Cd G P d)
 |0,h=>absurd h (by decide)
 |_+1,h=>RB (LQ (ai h))
theorem LU{d:Nat}(h:5<=d):CX (Cd G P d):=Lu (LR h) (LS h)
theorem Oq:∀{d:Nat},5<=d->Fs (Cd G P d)
 |0,h=>absurd h (by decide)
 |_+1,h=>NW (FN (ai h))
theorem Dp:∀{d:Nat},6<=d->pL (Cd G P d)
 |0,h=>absurd h (by decide)
 |_+1,h=>Lv (Oq (ai h)) (ud (ai h))
theorem Dq:∀{d:Nat},6<=d->uT (Cd G P d)
 |0,h=>absurd h (by decide)
 |_+1,h=>Lw (LU (ai h))
theorem y4:∀{d:Nat},7<=d->r6 (Cd G P d)
 |0,h=>absurd h (by decide)
 |_+1,h=>Iy (LU (ai h)) (Dp (ai h)) (ud (ai h))
theorem FO:∀{d:Nat},8<=d->tq (Cd G P d)
 |0,h=>absurd h (by decide)
 |_+1,h=>Ft (LU (ai h)) (Dq (ai h)) (y4 (ai h))
theorem jB{d:Nat}(h:8<=d):iy (Cd G P d):=
 ⟨ud (by omega),VX (by omega),VY (by omega),LR (by omega),LS (by omega),Dp (by omega),Dq (by omega),y4 (by omega),FO h⟩
theorem j0{pf:PF}{D0:Nat}{x:D}{b b':Bk}{w:Way}(h:∀d,D0<=d->tw (Run (Cd G P d)) pf x b w b'):fL pf (D0+1) x b w b':=fun d hd=>by
 obtain⟨d,rfl⟩:∃e,d=e+1:=⟨d-1,by exact(Nat.sub_add_cancel (ai hd)).symm⟩;exact h d (ai hd)
theorem ue(n:Nat):DL n-1=(10*n+8)+1:=by unfold DL;omega
section
variable{C:Cl}{n:Nat}{sv:Bool}
theorem i9:∀n,16<=BS n
 |0=>Nat.le_refl _
 |n+1=>by
  have:=i9 n;show 16<=6*BS n+200;omega
theorem G4{l:Int}:uF n (Run C) sv (.null l):=by
 intro fr rr mr aB av γ Q hp k;refine k [] mr γ [] ⟨Nat.zero_le _,Nat.le_add_right _ _,iV.refl _,trivial,fun X M hX hF hM hE b hb=>⟨.done,b,?_,hb,fun z=>z⟩⟩;show fL _ (DL n-1) _ _ _ _;rw[ue];exact j0 fun d hd=>RN
theorem Dr(hG:iy C){l:Int}{t:Th}{u:Bool}(ht:gK t):uF n (Run C) sv (.dt l t u):=by
 intro fr rr mr aB av γ Q hp k;have pN:=i9 n;have hr:=hp.rl;refine hG.lay .cP fr rr mr aB 0 av γ _ (ai hr) fun h1 e1=>?_;refine hG.val t fr (.cP::rr) mr aB h1 av γ _ (by rw[List.length_cons];exact ai hr) fun h2 e2=>?_;refine hG.lay (.dt u) fr (dE t::.cP::rr) mr aB h2 av γ _ (by rw[List.length_cons,List.length_cons];exact ai hr) fun h3 e3=>?_;have e:h3=0:=by
  refine az (e3) ?_;refine az (e2) ?_;refine az (e1) ?_;simp only[Bj];omega
 subst e;refine k [.dt u,dE t,.cP] mr γ [] ⟨by show 3<=BS n-1;exact aZ pN (DR (BS n) (1)),Nat.le_add_right _ _,iV.refl _,⟨trivial,sq _ _,trivial,trivial⟩,fun X M hX hF hM hE b hb=>?_⟩;refine bc fun bf=>?_;obtain⟨⟨⟨_,f1⟩,f2⟩,f3⟩:=hF;refine bf ?_;have hl:=eX hX f3;have hlen:rr.length+2<90000:=hl;refine⟨.done,(b.tell bF).tell (aO bE [.bool u] [bD t]),?_,by show b.told.length+1+1<=rr.length+3;exact ai hb,fun z=>?_⟩
 ·show fL _ (DL n-1) _ _ _ _;rw[ue];exact j0 fun d hd=>Od (jA (ai hd)) (mz (ai hd)) ht (aZ hb hlen)
 ·refine wU hX f1 hb ?_;refine Df hX ht (by decide) f2 ?_;refine Ol hX ht f3 (by show b.told.length+1<=rr.length+2;exact ai hb) ?_;exact z
theorem G5(hG:iy C){l:Int}{c:eS}(hc:gu c):uF n (Run C) sv (.call l c):=by
 intro fr rr mr aB av γ Q hp k;have pN:=i9 n;have hr:=hp.rl;have ha:=kq c.args;have h2:=hc.args.1;have hf:=gw c.aP;have n5:=cT c.aP;have hlen:(aw c).length<=8:=by
  unfold aw;refine az (List.length_append) ?_;refine az (List.length_append) ?_;simp only[List.length_singleton];exact uK ha (qk 3 h2) (iq hf) n5
 refine hG.xb l c fr rr mr aB 0 av γ _ h2 (ai hr) fun h1 e1=>?_;refine hG.lay (.jU (cE c.ent) (bA c.aP) c.args.length) fr (aw c++rr) mr aB h1 av γ _ (by rw[List.length_append];exact aZ hr hlen) fun h3 e3=>?_;have e:h3=0:=by
  refine az (e3) ?_;refine az (e1) ?_;simp only[Bj];omega
 subst e;refine k (.jU (cE c.ent) (bA c.aP) c.args.length::aw c) mr γ [] ⟨by rw[List.length_cons];exact jI pN hlen (DR (BS n) (1)),Nat.le_add_right _ _,iV.refl _,⟨trivial,G3 _ _⟩,fun X M hX hF hM hE b hb=>?_⟩;have f1:=hF.1;have f2:=hF.2;have hl:=eX hX f2;have ht:=r9 c.args b;have LV:(bO b c.args).told.length<=rr.length+(aw c).length:=by
  have h3:=ub c.args hb;unfold aw;refine az (List.length_append) ?_;exact ai h3
 refine⟨.done,(bO b c.args).tell (eW none [] c),?_,by show(bO b c.args).told.length+1<=rr.length+((aw c).length+1);exact ai LV,fun z=>?_⟩
 ·show fL _ (DL n-1) _ _ _ _;rw[ue];exact j0 fun d hd=>w_call (AZ (ai hd)) hc (aZ hb hl)
 ·refine LK hX hc (st:=[]) (by decide) f1 hb ?_;exact Dn hX hc f2 LV z
theorem Ds(hG:iy C){l:Int}{ts:List Th}(h2:ts.length<=2)(ht:∀t∈ts,gK t):uF n (Run C) sv (.abort l ts):=by
 intro fr rr mr aB av γ Q hp k;have pN:=i9 n;have hr:=hp.rl
 match ts,h2,ht,k with
 |[],_,_,k=>
  refine k [] mr γ [] ⟨Nat.zero_le _,Nat.le_add_right _ _,iV.refl _,trivial,fun X M hX hF hM hE b hb=>⟨.done,b,?_,hb,fun z=>z⟩⟩;show fL _ (DL n-1) _ _ _ _;rw[ue];exact j0 fun d hd=>AN (ts:=[]) (jA (ai hd)) (mz (by omega)) (by decide) (fun t h=>by rcases h with _|_) (aZ hr hb)
 |[t],h2,ht,k=>
  have t1:=ht t (by simp);refine hG.val t fr rr mr aB 0 av γ _ (ai hr) fun h1 e1=>?_;refine hG.lay .abort fr (dE t::rr) mr aB h1 av γ _ (by rw[List.length_cons];exact ai hr) fun yI e2=>?_;have e:yI=0:=by
   refine az (e2) ?_;refine az (e1) ?_;simp only[Bj];omega
  subst e;refine k [.abort,dE t] mr γ [] ⟨by show 2<=BS n-1;exact aZ pN (DR (BS n) (1)),Nat.le_add_right _ _,iV.refl _,⟨trivial,sq _ _,trivial⟩,fun X M hX hF hM hE b hb=>?_⟩;refine bc fun bf=>?_;obtain⟨⟨_,f1⟩,f2⟩:=hF;refine bf ?_;have hl:rr.length+1<90000:=eX hX f2;refine⟨.done,pM b [t],?_,by show b.told.length+1<=rr.length+2;exact ai hb,fun z=>?_⟩
  ·show fL _ (DL n-1) _ _ _ _;rw[ue];exact j0 fun d hd=>AN (jA (by omega)) (mz (by omega)) h2 ht (aZ hb hl)
  ·refine Df hX t1 (by decide) f1 ?_;exact AX hX t1 f2 (by show b.told.length<=rr.length+1;exact ai hb) z
 |[t,u],h2,ht,k=>
  have t1:=ht t (by simp);have t2:=ht u (by simp);refine hG.val t fr rr mr aB 0 av γ _ (ai hr) fun h1 e1=>?_;refine hG.lay .abort fr (dE t::rr) mr aB h1 av γ _ (by rw[List.length_cons];exact ai hr) fun yI e2=>?_;refine hG.val u fr (.abort::dE t::rr) mr aB yI av γ _ (by rw[List.length_cons,List.length_cons];exact ai hr) fun h3 e3=>?_;refine hG.lay .abort fr (dE u::.abort::dE t::rr) mr aB h3 av γ _ (by rw[List.length_cons,List.length_cons,List.length_cons];exact ai hr) fun h4 e4=>?_;have e:h4=0:=by
   refine az (e4) ?_;refine az (e3) ?_;refine az (e2) ?_;refine az (e1) ?_;simp only[Bj];omega
  subst e;refine k [.abort,dE u,.abort,dE t] mr γ [] ⟨by show 4<=BS n-1;exact aZ pN (DR (BS n) (1)),Nat.le_add_right _ _,iV.refl _,⟨trivial,sq _ _,trivial,sq _ _,trivial⟩,fun X M hX hF hM hE b hb=>?_⟩;refine bc fun bf=>?_;obtain⟨⟨⟨⟨_,f1⟩,f2⟩,f3⟩,f4⟩:=hF;refine bf ?_;have hl:rr.length+3<90000:=eX hX f4;refine⟨.done,pM b [t,u],?_,by show b.told.length+1+1<=rr.length+4;exact ai hb,fun z=>?_⟩
  ·show fL _ (DL n-1) _ _ _ _;rw[ue];exact j0 fun d hd=>AN (jA (by omega)) (mz (by omega)) h2 ht (aZ hb hl)
  ·refine Df hX t1 (by decide) f1 ?_;refine AX hX t1 f2 (by show b.told.length<=rr.length+1;exact ai hb) ?_;refine Df hX t2 (by decide) f3 ?_;exact AX hX t2 f4 (by show b.told.length+1<=rr.length+3;exact ai hb) z
 |_::_::_::_,h,_,_=>exact absurd h (by simp)
end
noncomputable def Dt(bk av:Nat)(rest:ak):ak:=(af,.b 4)::(c9,.d (.int (Int.ofNat bk)))::(aN,.d (.int (Int.ofNat 0)))::(qp,.d (.int (av:Int)))::(vC,.d (.int 0))::rest
noncomputable def FP(rest:ak):Prop:=rest=[]\/∃a,rest=[(sN,.d a)]
noncomputable def FQ:List T:=[.expr (.call cB [(.var af),(.tup [(.c (.str fN))])])]
theorem Ot{C:Cl}(hl:tj C){bk av:Nat}{fr:Fr}{mr:List Int}{aB:List (Nat×Nat)}{γ:Nat}{Q:KF}:∀(xs:List D) (rest:ak) (rr:List Row),FP rest->rr.length+xs.length<=100000->
  (∀aG,FP aG->Q .next (Dt bk av aG) (cS fr (List.replicate xs.length .bL++rr) mr aB 0 av γ []))->
  forL (ex G C 59) [sN] FQ none xs (Dt bk av rest) (cS fr rr mr aB 0 av γ []) Q:=by
 intro l0
 induction l0 with
 |nil=>
  intro rest rr hr hb k;exact k rest hr
 |cons x xs ih=>
  intro rest rr hr hb k;rw[List.length_cons]at hb;refine az (dn) ?_;have go:∀R:ak->St->Prop,(∀aG,FP aG->R (Dt bk av aG) (cS fr (.bL::rr) mr aB 0 av γ []))->bind1 [sN] x (Dt bk av rest) fun ed=>gC (ex G C 59) FQ ed (cS fr rr mr aB 0 av γ []) (wB R Q):=by
   intro R hR;rcases hr with rfl|⟨a,rfl⟩
   all_goals
    refine hl .bL fr rr mr aB 0 av γ _ (ai hb) fun h1 e1=>?_;have e:h1=0:=by rw[e1];rfl
    subst e;exact hR [(sN,.d x)] (.inr ⟨_,rfl⟩)
  refine go _ fun aG je=>?_;refine ih aG (.bL::rr) je (by rw[List.length_cons];exact ai hb) fun gX uB=>?_;have:=k gX uB;rw[List.length_cons,List.replicate_succ',List.append_assoc]at this;exact this
noncomputable def A1(C:Cl):Prop:=∀(fr:Fr) (rr:List Row) (mr:List Int) (aB:List (Nat×Nat)) (av bk γ:Nat) (Q:KV),bk<=av->av<=100->rr.length<=95000->
 Q (.d .none) (cS fr (List.replicate (av-bk) .bL++rr) mr aB 0 av γ [])->C fO [.b 4,.d (.int (Int.ofNat bk)),.d (.int (Int.ofNat 0))] (cS fr rr mr aB 0 av γ []) Q
theorem LW{C:Cl}(hl:tj C):A1 (Run C):=by
 intro fr rr mr aB av bk γ Q hb VZ hr k;have e:(P.code fO)=(P.code fO).take 1++([.gQ [sN] (.su (.bin .sub (.attr (.var af) c9) (.var c9))) FQ]++(P.code fO).drop 2):=rfl;show gC (ex G C 60) (P.code fO) [(af,.b 4),(c9,.d (.int (Int.ofNat bk))),(aN,.d (.int (Int.ofNat 0)))] (cS fr rr mr aB 0 av γ []) (fS Q);refine az (e) ?_;refine bq fun R hR=>?_;refine hR (Dt bk av []) (cS fr rr mr aB 0 av γ []) ?_;refine bq fun R2 t6=>?_;refine ju fun F hF=>?_
 conv=>whnf
 have es:((av:Int)-Int.ofNat bk)=Int.ofNat (av-bk):=by simp only[Int.ofNat_eq_natCast];omega
 refine az (es) ?_;refine aj (by unfold ah;exact aZ VZ (Nat.sub_le (av) (bk))) ?_;have xI:(eM (av-bk)).length=av-bk:=by unfold eM;rw[List.length_map,List.length_range]
 refine hF _ _ _ ?_;refine Ot hl (eM (av-bk)) [] rr (.inl rfl) (by rw[xI];exact jI VZ hr (Nat.sub_le (av) (bk))) fun aG je=>?_;refine az (xI) ?_;refine t6 _ _ ?_;rcases je with rfl|⟨a,rfl⟩
 all_goals
  refine⟨by show 9<=100;decide,?_⟩;refine⟨by show 9<=100;decide,?_⟩;exact k
noncomputable def A2(C:Cl):Prop:=∀(fr:Fr) (rr:List Row) (mr:List Int) (aB:List (Nat×Nat)) (av m bk γ:Nat) (Q:KV),bk<=av->av<=100->rr.length<=95000->
 Q (.d .none) (cS fr (.gL m::(List.replicate (av-bk) .bL++rr)) mr ((m,bk)::aB) 0 av γ [])->C nH [.b 4] (cS fr rr mr ((m,bk)::aB) 0 av γ []) Q
theorem Ou{C:Cl}(hb:A1 C)(hl:tj C):A2 (Run C):=by
 intro fr rr mr aB av m bk γ Q h1 h2 h3 k;refine hb fr rr mr ((m,bk)::aB) av bk γ _ h1 h2 h3 ?_;refine hl (.gL m) fr (List.replicate (av-bk) .bL++rr) mr ((m,bk)::aB) 0 av γ _ (by rw[List.length_append,List.length_replicate];exact jI h2 h3 (Nat.sub_le (av) (bk))) fun h' e=>?_;have e:h'=0:=by rw[e];rfl
 subst e;exact k
theorem LX:∀{d:Nat},4<=d->A1 (Cd G P d)
 |0,h=>absurd h (by decide)
 |_+1,h=>LW (ud (ai h))
theorem uY:∀{d:Nat},5<=d->A2 (Cd G P d)
 |0,h=>absurd h (by decide)
 |_+1,h=>Ou (LX (ai h)) (ud (ai h))
theorem xc{X:PX}{M:Nat->Int}{a:Nat}{b:Bk}(hX:nU X){k m p:Nat}(hf:gJ X.pf.R M a (.gL m::List.replicate k .bL))(hb:b.told.length<=a)(hm:M m=Int.ofNat p)(hp:a+k+1<=p)(z:bP X p (.N []) (FK b k)):bP X a (.N []) b:=by
 have h1:=hf.1;have h2:=hf.2;rw[List.length_replicate]at h2;refine uc hX k a b h1 hb ?_;exact wW hX h2 hm (ai hp) z
section
variable{C:Cl}{n:Nat}{sv:Bool}
theorem G6{aB:List (Nat×Nat)}{av:Nat}{mr:List Int}(h:aB≠[])(ha:Dl aB av mr):∃m bk n0,aB=(m,bk)::n0/\bk<=av:=by
 induction aB using List.casesOn with
 |nil=>exact absurd rfl h
 |cons p n0=>exact⟨p.1,p.2,n0,rfl,(ha p List.mem_cons_self).1⟩
theorem LY(hL:A2 C){l:Int}(hs:sv=true):uF n (Run C) sv (.ret l):=by
 intro fr rr mr aB av γ Q hp k;have pN:=i9 n;have hr:=hp.rl;have CT:=hp.bl;refine bc fun bf=>?_;obtain⟨m,bk,n0,rfl,Xi⟩:=G6 (hp.sv hs) hp.ac;refine bf ?_;refine hL fr rr mr n0 av m bk γ _ Xi (ai CT) (ai hr) ?_;refine k (.gL m::List.replicate (av-bk) .bL) mr γ [] ⟨by rw[List.length_cons,List.length_replicate];exact uK pN CT (Nat.sub_le (av) (bk)) (DR (BS n) (1)),Nat.le_add_right _ _,iV.refl _,⟨(hp.ac (m,bk) List.mem_cons_self).2,AV _ _⟩,fun X M hX hF hM hE b hb=>?_⟩;refine bc fun bf=>?_;obtain⟨p,e1,e2,e3⟩:=hE m (av-bk) rfl;refine bf ?_;have e2:rr.length+((List.replicate (av-bk) Row.bL).length+1)<=p:=e2;rw[List.length_replicate]at e2;refine⟨.left,b,?_,m,av-bk,p,rfl,e1,by rw[sm];exact aZ hb e2,e3,fun z=>?_⟩
 ·show fL _ (DL n-1) _ _ _ _;rw[ue];exact j0 fun d hd=>VO
 ·exact xc hX hF hb e1 (ai e2) z
theorem xd(hG:iy C)(hL:A2 C){l:Int}{q:Bool}{aP:Option Th}{u:Bool}(hs:sv=true)(hf:fw aP):uF n (Run C) sv (.cK l q aP u):=by
 intro fr rr mr aB av γ Q hp k;have pN:=i9 n;have hr:=hp.rl;have CT:=hp.bl;have Du:=gw aP;have n5:=cT aP;obtain⟨m,bk,n0,rfl,Xi⟩:=G6 (hp.sv hs) hp.ac;have fin:∀(qr:List Row),qr.length=qN q->jz mr.length qr->(∀(X:PX) (M:Nat->Int) (a:Nat) (b:Bk),nU X->gJ X.pf.R M a qr->bP X (a+qN q) (.N (qT q)) b->bP X a (.N []) b)->
   AW n (BS n-1) (.cK l q aP u) ((m,bk)::n0) av rr mr ((.gL m::List.replicate (av-bk) .bL)++([.cK qu (bA aP) (qN q) u]++(cg aP++qr))) mr:=by
  intro qr hq hqm LZ;have hq1:qN q<=1:=by cases q<;>decide
  refine⟨?_,Nat.le_add_right _ _,iV.refl _,jz.app (a:=.gL m::List.replicate (av-bk) .bL) ⟨(hp.ac (m,bk) List.mem_cons_self).2,AV _ _⟩ (jz.app (a:=[.cK qu (bA aP) (qN q) u]) ⟨trivial,trivial⟩ ((AS _ _).app hqm)),fun X M hX hF hM hE b hb=>?_⟩
  ·simp only[List.length_append,List.length_cons,List.length_replicate,List.length_nil,Du,hq];exact fk6 pN CT n5 hq1 (Nat.sub_le (av) (bk)) (DR (BS n) (1))
  ·obtain⟨p,e1,e2,e3⟩:=hE m (av-bk) rfl;simp only[List.length_append,List.length_cons,List.length_replicate,List.length_nil,Du,hq]at e2;have FR:=cw hF;have g1:=FR.1;have g2:=FR.2;clear FR;have FT:=cw g1;have g3:=FT.1;have g4:=FT.2;clear FT;have FU:=cw g3;have g5:=FU.1;have g6:=FU.2;clear FU;have l1:rr.length+qr.length=rr.length+qN q:=by rw[hq]
   have l2:rr.length+(cg aP++qr).length=rr.length+qN q+bA aP:=by rw[List.length_append,Du,hq];omega
   have l3:rr.length+([Row.cK qu (bA aP) (qN q) u]++(cg aP++qr)).length=rr.length+qN q+bA aP+1:=by
    simp only[List.length_append,List.length_cons,List.length_nil,Du,hq];omega
   rw[l1]at g6;rw[l2]at g4;rw[l3]at g2;have hl:=eX hX g4.2;have hl:rr.length+qN q+bA aP<90000:=hl;refine⟨.left,b.tell (aO cz (lJ q aP u) (qT q++jd aP)),?_,m,av-bk,p,rfl,e1,by rw[sm];show b.told.length+1+(av-bk)<=p;exact aZ hb e2,e3,fun z=>?_⟩
   ·show fL _ (DL n-1) _ _ _ _;rw[ue];exact j0 fun d hd=>IT (jA (ai hd)) (mz (ai hd)) (Om (ai hd)) hf (aZ hr hb)
   ·refine LZ X M _ b hX g5 ?_;have hqT:(qT q).length<=1:=by cases q<;>simp[qT]
    refine LJ hX hf (by omega) g6 ?_;refine I9 hX hf g4.2 (by show b.told.length<=rr.length+qN q+bA aP;exact ai hb) ?_;exact xc hX g2 (by show b.told.length+1<=_;exact ai hb) e1 (ai e2) z
 show gC (ex G C 60) ((P.code f7).take 2++(P.code f7).drop 2) [(af,.b 4),(aD,.d (cy (.cK l q aP u)))] (cS fr rr mr ((m,bk)::n0) 0 av γ []) (fS Q);refine bq fun R hR=>?_;refine hR [(af,.b 4),(aD,.d (cy (.cK l q aP u))),(bH,.d (.str cz)),(ba,.d (.int l)),(mH,.d (Vx q)),(nr,.d (.str qu)),(cI,.d (qI aP)),(nu,.d (.bool u)),(kT,.d (.int (.ofNat 0)))] (cS fr rr mr ((m,bk)::n0) 0 av γ []) ?_;clear hR R
 induction q using Bool.casesOn with
 |false=>
  refine hG.family aP fr rr mr ((m,bk)::n0) 0 av γ _ (ai hr) fun h1 e1=>?_;refine hG.lay (.cK qu (bA aP) 0 u) fr (cg aP++rr) mr ((m,bk)::n0) h1 av γ _ (by rw[List.length_append];exact jI hr (iq Du) n5 (ai n5 (ai n5))) fun h2 e2=>?_;have e:h2=0:=by
   refine az (e2) ?_;refine az (e1) ?_;simp only[Bj];omega
  subst e;refine hL fr (.cK qu (bA aP) 0 u::(cg aP++rr)) mr n0 av m bk γ _ Xi (ai CT) (by rw[List.length_cons,List.length_append];exact jI hr (iq Du) n5 (ai n5 (ai n5))) ?_;have kk:=k _ mr γ [] (fin [] rfl trivial fun X M a b _ _ z=>z);simp only[List.append_nil,List.cons_append,List.append_assoc,List.nil_append]at kk;exact kk
 |true=>
  refine hG.VV (.ofNat 0) Bi fr rr mr ((m,bk)::n0) 0 av γ _ (ai hr) fun h0 e0=>?_;refine hG.family aP fr (.obj (.ofNat 0) Bi::rr) mr ((m,bk)::n0) h0 av γ _ (by rw[List.length_cons];exact ai hr) fun h1 e1=>?_;refine hG.lay (.cK qu (bA aP) 1 u) fr (cg aP++.obj (.ofNat 0) Bi::rr) mr ((m,bk)::n0) h1 av γ _ (by rw[List.length_append,List.length_cons];exact jI hr (iq Du) n5 (ai n5 (ai n5))) fun h2 e2=>?_;have e:h2=0:=by
   refine az (e2) ?_;refine az (e1) ?_;refine az (e0) ?_;simp only[Bj];omega
  subst e;refine hL fr (.cK qu (bA aP) 1 u::(cg aP++.obj (.ofNat 0) Bi::rr)) mr n0 av m bk γ _ Xi (ai CT) (by rw[List.length_cons,List.length_append,List.length_cons];exact jI hr (iq Du) n5 (ai n5 (ai n5))) ?_;have kk:=k _ mr γ [] (fin [.obj (.ofNat 0) Bi] rfl ⟨trivial,trivial⟩ fun X M a b hX hF z=>RK hX (by decide) hF.2 z);simp only[List.cons_append,List.append_assoc,List.nil_append]at kk;exact kk
end
noncomputable def FV(fr:Fr)(rr:List Row)(mr:List Int)(aB:List (Nat×Nat))(h av:Int)(o8:Option aL)(γ:Nat)(τ:List aL):St:=
 ⟨[some (mR fr.ns fr.sp fr.line fr.left),some (GP fr.body),some nM,some rZ,some (Fp h av),some (.list [] (rr.map (bV M0))),some (.list [] (mr.map PyData.int)),some (.list (aB.map t5) []),
  o8,none,none,none,none,none,none,none,some qi,some oW,some pK,some (.dict [])],τ,γ⟩
noncomputable def L1(C:Cl):Prop:=∀(fr:Fr) (rr:List Row) (mr:List Int) (aB:List (Nat×Nat)) (h av:Int) (o8:Option aL) (γ:Nat) (Q:KV),mr.length<=100000->
 Q (.d (.int (.ofNat mr.length))) (FV fr rr (-1::mr) aB h av o8 γ [])->C dA [.b 4] (FV fr rr mr aB h av o8 γ []) Q
theorem RX{C:Cl}:L1 (Run C):=by
 intro fr rr mr aB h av o8 γ Q hl k;refine⟨by show 0+(mr.map PyData.int).length<ah;rw[List.length_map];unfold ah;exact ai hl,?_⟩;refine aj (by show 0+((mr.map PyData.int).length+1)<=ah;rw[List.length_map];unfold ah;exact ai hl) ?_;have e:(Int.ofNat (0+((mr.map PyData.int).length+1))-Int.ofNat 1)=Int.ofNat mr.length:=by
  rw[List.length_map];simp only[Int.ofNat_eq_natCast];omega
 have kk:Q (.d (.int (Int.ofNat (0+((mr.map PyData.int).length+1))-Int.ofNat 1))) (FV fr rr (-1::mr) aB h av o8 γ []):=by rw[e];exact k
 exact kk
noncomputable def part8(m av:Nat):aL:=.inst 1 [(j3,.d .none),(eY,.d (.int (Int.ofNat m))),(aN,.d (.int 0)),(c9,.d (.int (av:Int)))]
noncomputable def L2(C:Cl):Prop:=∀(fr:Fr) (rr:List Row) (mr:List Int) (aB:List (Nat×Nat)) (av γ:Nat) (Q:KV),mr.length<=100000->
 Q (.d .none) (FV fr rr (-1::mr) aB 0 av (some (part8 mr.length av)) γ [])->C 7 [.b 8,.b 4,.d .none] (FV fr rr mr aB 0 av (some (.inst 1 [])) γ []) Q
theorem RY{C:Cl}(hn:L1 C):L2 (Run C):=by
 intro fr rr mr aB av γ Q hl k;refine⟨by show 0<=100;decide,?_⟩;refine hn fr rr mr aB 0 av (some (.inst 1 [(j3,.d .none)])) γ _ hl ?_;refine⟨rfl,?_⟩;refine⟨by show 1<=100;decide,?_⟩;refine⟨by show 2<=100;decide,?_⟩;refine⟨by show 3<=100;decide,?_⟩;exact k
theorem y5:∀(aB:List (Nat×Nat)),kR 8 (aB.map t5)=true
 |[]=>rfl
 |p::aB=>y5 aB
theorem Jb{fr:Fr}{rr:List Row}{mr:List Int}{aB:List (Nat×Nat)}{h av:Int}{o8:aL}{m:Nat}(h8:o8=part8 m av.toNat){γ:Nat}{τ:List aL}:lZ 8 (FV fr rr mr aB h av (some o8) γ τ).base=true:=by
 subst h8;show(true&&(true&&(true&&(true&&(true&&(true&&(true&&(kR 8 (aB.map t5)&&true))))))))=true;rw[y5];rfl
noncomputable def V0(X:PX)(M:Nat->Int)(D0 a a':Nat)(ss:List D):Prop:=∀b,b.told.length<=a->∃w b',WalkL X.pf D0 ss b w b'/\b'.told.length<=90000/\(match w with
 |.gn=>X.NA b'->bP X a (.N []) b
 |_=>b'.told.length+1<=a'/\(bP X a' (.N []) (b'.tell fQ)->bP X a (.N []) b))
noncomputable def RZ(n:Nat)(ss:List D):=Piece (fun X M a a' _=>V0 X M (DL n) a a' ss) (2*BS n+1)
noncomputable def L3(n:Nat)(C:Cl)(ss:List D):Prop:=∀(fr:Fr) (rr:List Row) (mr:List Int) (aB:List (Nat×Nat)) (av γ:Nat) (Q:KV),rr.length+4*BS n<=89900->mr.length+4*BS n<=89900->av+n<=5->Dl aB av mr->aB.length+1+n<=10->
 (∀new gN gG τ,RZ n ss aB av rr mr new gN->Q (.d .none) (cS fr (new++rr) gN aB 0 av gG τ))->C eg [.b 4,.d (.list ss)] (cS fr rr mr aB 0 av γ []) Q
theorem qO{M:Nat->Int}{n:Nat}{m1:List Int}{m v:Nat}(h:lP M n (eU m1 m v))(hm:m<n)(hn:n<=m1.length):lP M n m1:=fun j h1 h2=>by
 have:=h j h1 (by rw[aE];exact h2);rw[dJ _ (aZ hm hn) h2,if_neg (by exact Nat.ne_of_lt (aZ hm h1))]at this;exact this
theorem L4{M:Nat->Int}{n:Nat}{m1:List Int}{m:Nat}{v:Int}(h:lP M n (eU m1 m v))(h1:n<=m)(h2:m<m1.length):M m=v:=by
 have:=h m h1 (by rw[aE];exact h2);rw[dJ _ h2 h2,if_pos rfl]at this;exact this.symm
theorem pd{M:Nat->Int}{n n':Nat}{m1:List Int}(h:lP M n m1)(hn:n<=n'):lP M n' m1:=fun j h1 h2=>h j (aZ hn h1) h2
theorem xe{C:Cl}{n:Nat}{ss:List D}(hN:L2 C)(hG:iy C)(hS:uG n C true ss):L3 n (Run C) ss:=by
 intro fr rr mr aB av γ Q hr hm CT Xj p6 k;have pN:=i9 n;show gC (ex G C 60) ((P.code eg).take 1++(((P.code eg).drop 1).take 1++(P.code eg).drop 2)) [(af,.b 4),(bo,.d (.list ss))] (cS fr rr mr aB 0 av γ []) (fS Q);refine bq fun R hR=>?_;refine hN fr rr mr aB av (γ+1) _ (ai hm) ?_;have S5:lZ 8 (FV fr rr (-1::mr) aB 0 av (some (part8 mr.length av)) (γ+1) []).base=true:=Jb (m:=mr.length) rfl;refine⟨rfl,?_⟩
 conv=>whnf
 generalize hNb:lZ 8 _=nb;have hnb:nb=true:=hNb.symm.trans S5;subst hnb
 conv=>whnf
 refine hR [(af,.b 4),(bo,.d (.list ss)),(l8,t5 (mr.length,av))] (cS fr rr (-1::mr) aB 0 av (γ+2) []) ?_;clear hR R hNb S5;refine bq fun R hR=>?_;have go:R [(af,.b 4),(bo,.d (.list ss)),(l8,t5 (mr.length,av))] (cS fr rr (-1::mr) ((mr.length,av)::aB) 0 av (γ+2) []):=by
  refine hR _ _ ?_;clear hR R;have Zv:Dl ((mr.length,av)::aB) av (-1::mr):=by
   intro p hp;rw[List.length_cons];rcases List.mem_cons.mp hp with rfl|hp
   ·exact⟨Nat.le_refl _,Nat.lt_succ_self _⟩
   ·have:=Xj p hp;exact⟨this.1,by exact ai this.2⟩
  refine hS fr rr (-1::mr) ((mr.length,av)::aB) av (γ+2) _ ⟨by exact ai hr,by rw[List.length_cons];exact ai hm,(fun _=>by simp),CT,Zv,by rw[List.length_cons];omega⟩ fun new iW pg S6 hP=>?_;have hk:=hP.keep;have S7:=hP.len;have DO:=hP.jZ;rw[List.length_cons]at DO;have FW:mr.length+1<=iW.length:=hk.1;refine aj (by show(aB.map t5).length+0<=ah;rw[List.length_map];unfold ah;exact ai p6) ?_;refine hG.put fr (new++rr) iW aB 0 av pg mr.length (Int.ofNat 0) _ (by rw[List.length_append];exact aZ hr S7) (aZ hm DO) (ai FW) ?_;refine hG.lay .i7 fr (new++rr) (eU iW mr.length (new++rr).length) aB (Int.ofNat 0) av pg _ (by rw[List.length_append];exact aZ hr S7) fun h' e=>?_;have e:h'=0:=by rw[e];rfl
  subst e;refine k (.i7::new) _ pg [] ⟨by rw[List.length_cons];exact ai S7,by rw[aE];exact ai DO,?_,⟨trivial,by rw[aE];exact hP.FL⟩,fun X M hX hF hM b hb=>?_⟩
  ·refine iV.set ⟨by exact ai FW,fun j hj=>?_⟩ _ (Nat.le_refl _) (ai FW);rw[hk.2 j (by rw[List.length_cons];exact ai hj),jw _ hj]
  ·obtain⟨f1,f2⟩:=hF;have hlen:(new++rr).length=rr.length+new.length:=by rw[List.length_append];omega
   have hMm:M mr.length=Int.ofNat (rr.length+new.length):=by
    have:=L4 hM (Nat.le_refl _) (ai FW:mr.length<iW.length);rw[this,hlen];rfl
   have hl:=eX hX f2;have Zw:lP M (-1::mr).length iW:=by
    have:=pd hM (Nat.le_succ mr.length);refine az (List.length_cons) ?_;exact qO this (by omega) (by omega)
   obtain⟨w,b',hw,ha⟩:=hP.good X M hX f1 Zw (by
    intro m q he;simp only[tE]at he;rcases he with _|_;exact⟨_,hMm,Nat.le_refl _,by exact ai hl⟩) b hb
   have LV:=ha.told (ai hl);refine⟨w,b',hw,LV,?_⟩
   induction w using Way.casesOn with
   |done=>
    have e1:rr.length+(Row.i7::new).length=rr.length+new.length+1:=by rw[List.length_cons];omega
    refine az (e1) ?_;have h1:=ha.1;exact⟨by exact ai h1,fun z=>ha.2 (ua hX f2 h1 z)⟩
   |left=>
    obtain⟨m,q,p,he,Ho,h1,h2,h3⟩:=ha;simp only[tE,Nat.sub_self]at he;rcases he with _|_;have hp:p=rr.length+new.length:=by
     have:=Ho.symm.trans hMm;exact Int.ofNat.inj this
    subst hp;have e1:rr.length+(Row.i7::new).length=rr.length+new.length+1:=by rw[List.length_cons];omega
    refine az (e1) ?_;have h1:b'.told.length<=rr.length+new.length:=h1;exact⟨by exact ai h1,fun z=>h3 (ua hX f2 h1 z)⟩
   |gn=>exact ha.2
 induction aB using List.casesOn with
 |nil=>
  refine⟨by decide,?_⟩;exact go
 |cons p aB=>
  refine⟨by rw[List.length_map];show(p::aB).length+0<ah;unfold ah;exact ai p6,?_⟩;exact go
theorem uZ{M:Nat->Int}{n:Nat}{m1 m2:List Int}(hk:iV m1 m2)(h:lP M n m2):lP M n m1:=fun j h1 h2=>by
 have:=h j h1 (Nat.lt_of_lt_of_le h2 hk.1);rw[hk.2 j h2]at this;exact this
theorem G7{n2 n:Nat}(h:n2<=n):BS n2<=BS n:=by
 induction n with
 |zero=>
  have:n2=0:=by exact Nat.le_antisymm (ai h) (by omega)
  subst this;exact Nat.le_refl _
 |succ n ih=>
  by_cases e:n2=n+1
  ·subst e;exact Nat.le_refl _
  ·have:=ih (by omega);show BS n2<=6*BS n+200;exact ai this
theorem dH(n:Nat):BS (n+1)=6*BS n+200:=rfl
theorem V1(n:Nat):DL (n+1)-1=(10*n+18)+1:=by unfold DL;omega
section
variable{C:Cl}{n:Nat}{sv:Bool}
theorem WalkL.at_{pf:PF}{D0 d:Nat}{ss:List D}{b b':Bk}{w:Way}(h:WalkL pf D0 ss b w b')(hd:D0<=d):oZ (Cd G P d) pf ss b w b':=h d hd
theorem R1(hG:iy C){l:Int}{e:Bool}{aP:Option Th}{fm:Bool}{body:List D}(hf:fw aP)(hA:L3 n C body):uF (n+1) (Run C) sv (.acc l e aP fm body):=by
 intro fr rr mr aB av γ Q hp k;have pN:=i9 n;have hr:=hp.rl;have hm:=hp.ml;rw[dH]at hr hm;have CT:=hp.bl;have p6:=hp.al;have Du:=gw aP;have n5:=cT aP;show gC (ex G C 60) ((P.code gD).take 1++(P.code gD).drop 1) [(af,.b 4),(aD,.d (cy (.acc l e aP fm body)))] (cS fr rr mr aB 0 av γ []) (fS Q);refine bq fun R hR=>?_;refine hR [(af,.b 4),(aD,.d (cy (.acc l e aP fm body))),(bH,.d (.str bw)),(ba,.d (.int l)),(nr,.d (.str (cE e))),(cI,.d (qI aP)),(sP,.d (d4 fm)),(bo,.d (.list body))] (cS fr rr mr aB 0 av γ []) ?_;clear hR R;refine hG.lay .cP fr rr mr aB 0 av γ _ (ai hr) fun h1 e1=>?_;refine hG.family aP fr (Row.cP::rr) mr aB h1 av γ _ (by rw[List.length_cons];exact ai hr) fun h2 e2=>?_;refine hG.lay (.accept (cE e) (bA aP) (d4 fm)) fr (cg aP++Row.cP::rr) mr aB h2 av γ _ (by rw[List.length_append,List.length_cons];exact jI hr (iq Du) n5 (ai n5 (ai n5))) fun h3 e3=>?_;have e0:h3=0:=by
  refine az (e3) ?_;refine az (e2) ?_;refine az (e1) ?_;simp only[Bj];omega
 subst e0;have hlen:(Row.accept (cE e) (bA aP) (d4 fm)::(cg aP++Row.cP::rr)).length=rr.length+bA aP+2:=by
  simp only[List.length_cons,List.length_append,Du];omega
 refine hA fr (.accept (cE e) (bA aP) (d4 fm)::(cg aP++Row.cP::rr)) mr aB av γ _ (by rw[hlen];exact aZ hr n5 (ai n5 (ai n5))) (ai hm) (ai CT) hp.ac (ai p6) fun new gN gG τ hP=>?_;have L5:=hP.len;have MO:=hP.jZ;have e4:new++Row.accept (cE e) (bA aP) (d4 fm)::(cg aP++Row.cP::rr)=(new++([Row.accept (cE e) (bA aP) (d4 fm)]++(cg aP++[Row.cP])))++rr:=by simp
 have kk:=k (new++([Row.accept (cE e) (bA aP) (d4 fm)]++(cg aP++[Row.cP]))) gN gG [] ⟨?_,?_,hP.keep,hP.FL.app (jz.app (a:=[Row.accept (cE e) (bA aP) (d4 fm)]) ⟨trivial,trivial⟩ ((AS _ _).app ⟨trivial,trivial⟩)),fun X M hX hF hM hE b hb=>?_⟩
 ·rw[<-e4]at kk;exact kk
 ·rw[dH];simp only[List.length_append,List.length_cons,List.length_nil,Du];exact jI n5 L5 (DR (6*BS n+200) (1)) (ai n5)
 ·rw[dH];exact aZ MO (DR (6*BS n+200) (1))
 ·obtain⟨g1,g2⟩:=cw hF;have FT:=cw g1;have g3:=FT.1;have g4:=FT.2;clear FT;have FU:=cw g3;have g5:=FU.1;have g6:=FU.2;clear FU;have l2:rr.length+(cg aP++[Row.cP]).length=rr.length+1+bA aP:=by rw[List.length_append,Du,List.length_singleton];omega
  have l3:rr.length+([Row.accept (cE e) (bA aP) (d4 fm)]++(cg aP++[Row.cP])).length=rr.length+bA aP+2:=by
   simp only[List.length_append,List.length_cons,List.length_nil,Du];omega
  rw[l2]at g4;rw[l3]at g2;have Zx:rr.length+(new++([Row.accept (cE e) (bA aP) (d4 fm)]++(cg aP++[Row.cP]))).length=rr.length+bA aP+2+new.length:=by
   rw[List.length_append,<-l3];omega
  have PQ:=hP.good X M hX (by rw[hlen];exact g2) hM;rw[hlen]at PQ;have Zy:=eX hX g4.2;have Zy:rr.length+1+bA aP<90000:=Zy;refine bc fun bf=>?_;obtain⟨w,b',hw,LV,ha⟩:=PQ (uV b e aP fm) (by show b.told.length+1+1<=_;exact ai hb);refine bf ?_;refine⟨VP w,Oe w b' fQ,?_,?_⟩
  ·show fL _ (DL (n+1)-1) _ _ _ _;rw[V1];exact j0 fun d hd=>VQ (jA (ai hd)) (mz (ai hd)) hf (aZ hb Zy) (by omega) (hw.at_ (by unfold DL;exact ai hd))
  ·refine az (Zx) ?_;have mY:bP X (rr.length+bA aP+2) (.N []) (uV b e aP fm)->bP X rr.length (.N []) b:=fun z=>by
    refine wU hX g5.2 hb ?_;refine LJ hX hf (by decide) g6 ?_;rw[List.append_nil];refine LN hX hf g4.2 (by show b.told.length+1<=rr.length+1+bA aP;exact ai hb) ?_;have e5:rr.length+1+bA aP+1=rr.length+bA aP+2:=by omega
    refine az (e5) ?_;exact z
   induction w using Way.casesOn with
   |done=>exact⟨ha.1,fun z=>mY (ha.2 z)⟩
   |left=>exact⟨ha.1,fun z=>mY (ha.2 z)⟩
   |gn=>exact⟨LV,fun z=>mY (ha z)⟩
noncomputable def L6(C:Cl):Prop:=∀(fr:Fr) (rr:List Row) (mr:List Int) (aB:List (Nat×Nat)) (h av:Int) (γ:Nat) (Q:KV),Q (.d .none) (cS fr rr mr aB h av γ [])->C kK [.b 4,.d (.list [])] (cS fr rr mr aB h av γ []) Q
theorem R5:L6 (Run C):=by
 intro fr rr mr aB h av γ Q k;exact k
theorem L7:∀{d:Nat},1<=d->L6 (Cd G P d)
 |0,h=>absurd h (by decide)
 |_+1,_=>R5
noncomputable def G8(n:Nat)(C:Cl)(ss:List D)(er:Row):Prop:=∀(fr:Fr) (rr:List Row) (mr:List Int) (aB:List (Nat×Nat)) (av m γ:Nat) (Q:KV),Oj n sv (.arm::rr) (-1::mr) aB av->rr.length+2*BS n<=89990->mr.length+2*BS n<=89990->m<mr.length->
 (∀new iW gG,qM n (2*BS n) ss aB av (.arm::rr) (-1::mr) new iW->Q (.d .none) (cS fr (er::(new++.arm::rr)) (eU (eU iW m (new++.arm::rr).length) mr.length (er::(new++.arm::rr)).length) aB 0 av gG []))->
 C gU [.b 4,.d (.list []),.d (.list ss),.d (.list []),.d (bV M0 er),.d (.int (Int.ofNat m))] (cS fr rr mr aB 0 av γ []) Q
theorem L8(hG:iy C)(hD:L6 C){ss:List D}{er:Row}(her:er=.bL\/er=.fx)(hS:uG n C sv ss):G8 (sv:=sv) n (Run C) ss er:=by
 intro fr rr mr aB av m γ Q hp hr hm Zz k;have pN:=i9 n;show gC (ex G C 60) ((P.code gU).take 4++(P.code gU).drop 4) [(af,.b 4),(g8,.d (.list [])),(bo,.d (.list ss)),(cV,.d (.list [])),(s_end,.d (bV M0 er)),(j2,.d (.int (Int.ofNat m)))] (cS fr rr mr aB 0 av γ []) (fS Q);refine bq fun R hR=>?_;refine hD fr rr mr aB 0 av γ _ ?_;refine hG.new fr rr mr aB 0 av γ _ (ai hm) ?_;refine hR [(af,.b 4),(g8,.d (.list [])),(bo,.d (.list ss)),(cV,.d (.list [])),(s_end,.d (bV M0 er)),(j2,.d (.int (Int.ofNat m))),(dp,.d (.list [])),(iZ,.d (.int (Int.ofNat mr.length))),(aN,.d (.int 0))] (cS fr rr (-1::mr) aB 0 av γ []) ?_;clear hR R;refine hG.lay .arm fr rr (-1::mr) aB 0 av γ _ (ai hr) fun h1 e1=>?_;have e1:h1=0:=by rw[e1];rfl
 subst e1;refine hS fr (.arm::rr) (-1::mr) aB av γ _ hp fun new iW pg S6 hP=>?_;have hk:=hP.keep.1;have L5:=hP.len;have MO:=hP.jZ;rw[List.length_cons]at hk MO;have hlen:(new++Row.arm::rr).length=rr.length+1+new.length:=by rw[List.length_append,List.length_cons];omega
 refine hG.put fr (new++.arm::rr) iW aB 0 av pg m 0 _ (jI hr L5 (iq hlen)) (aZ hm MO) (aZ Zz hk) ?_;refine hG.lay er fr (new++.arm::rr) (eU iW m (new++.arm::rr).length) aB 0 av pg _ (jI hr L5 (iq hlen)) fun h2 e2=>?_;have e2:h2=0:=by
  rw[e2];rcases her with rfl|rfl<;>rfl
 subst e2;refine hG.put fr (er::(new++.arm::rr)) (eU iW m (new++.arm::rr).length) aB 0 av pg mr.length 0 _ (by rw[List.length_cons];exact jI hr L5 (iq hlen)) (by rw[aE];exact aZ hm MO) (by rw[aE];exact ai hk) ?_;exact k new iW pg hP
theorem L9(hG:iy C){l:Int}{body:List D}(hH:G8 (sv:=sv) n C body .bL):uF (n+1) (Run C) sv (.block l body):=by
 intro fr rr mr aB av γ Q hp k;have pN:=i9 n;have hr:=hp.rl;have hm:=hp.ml;rw[dH]at hr hm;have CT:=hp.bl;have p6:=hp.al;show gC (ex G C 60) ((P.code ib).take 1++(P.code ib).drop 1) [(af,.b 4),(aD,.d (cy (.block l body)))] (cS fr rr mr aB 0 av γ []) (fS Q);refine bq fun R hR=>?_;refine hR [(af,.b 4),(aD,.d (cy (.block l body))),(bH,.d (.str gp)),(ba,.d (.int l)),(j3,.d (.str aI)),(g8,.d (.list [])),(bo,.d (.list body)),(cV,.d (.list []))] (cS fr rr mr aB 0 av γ []) ?_;clear hR R;refine hG.lay .block fr rr mr aB 0 av γ _ (ai hr) fun h1 e1=>?_;have e1:h1=0:=by rw[e1];rfl
 subst e1;refine⟨by show 9<=100;decide,?_⟩;refine hG.new fr (.block::rr) mr aB 0 ((av+1:Nat):Int) γ _ (ai hm) ?_;refine hH fr (.block::rr) (-1::mr) aB (av+1) mr.length γ _ ⟨by simp only[List.length_cons];exact ai hr,by simp only[List.length_cons];exact ai hm,hp.sv,by exact ai CT,?_,by exact ai p6⟩ (by rw[List.length_cons];exact ai hr) (by rw[List.length_cons];exact ai hm) (by rw[List.length_cons];omega) fun new iW pg hP=>?_
 ·intro p rI;have:=hp.ac p rI;simp only[List.length_cons];exact⟨by exact ai this.1,by exact ai this.2⟩
 have L5:=hP.len;have MO:=hP.jZ;have hk:=hP.keep.1;simp only[List.length_cons]at MO hk;refine⟨by show 9<=100;decide,?_⟩;have eb:(((av+1:Nat):Int)-Int.ofNat 1)=(av:Int):=by
  show((av+1:Nat):Int)-1=_;omega
 have e4:Row.bL::(new++Row.arm::Row.block::rr)=(.bL::(new++[.arm,.block]))++rr:=by simp
 have hlen:rr.length+(Row.bL::(new++[Row.arm,Row.block])).length=rr.length+2+new.length+1:=by
  simp only[List.length_cons,List.length_append,List.length_nil];omega
 have kk:=k (.bL::(new++[.arm,.block])) (eU (eU iW mr.length (new++.arm::.block::rr).length) (-1::mr).length (Row.bL::(new++Row.arm::Row.block::rr)).length) pg [] ⟨?_,?_,?_,⟨trivial,jz.app (b:=[.arm,.block]) (by rw[aE,aE];exact hP.FL) ⟨trivial,trivial,trivial⟩⟩,fun X M hX hF hM hE b hb=>?_⟩
 ·rw[<-e4]at kk;have kk2:Q (.d .none) (cS fr (Row.bL::(new++Row.arm::Row.block::rr)) (eU (eU iW mr.length (new++Row.arm::Row.block::rr).length) (-1::mr).length (Row.bL::(new++Row.arm::Row.block::rr)).length) aB 0 (((av+1:Nat):Int)-Int.ofNat 1) pg []):=by rw[eb];exact kk
  exact kk2
 ·rw[dH];simp only[List.length_cons,List.length_append,List.length_nil];exact aZ L5 (DR (6*BS n+200) (1))
 ·rw[dH,aE,aE];exact aZ MO (DR (6*BS n+200) (1))
 ·refine iV.set (iV.set ⟨by exact ai hk,fun j hj=>?_⟩ _ (Nat.le_refl _) (ai hk)) _ (by rw[List.length_cons];omega) (by rw[aE,List.length_cons];exact ai hk);rw[hP.keep.2 j (by simp only[List.length_cons];exact ai hj),jw _ (by rw[List.length_cons];exact ai hj),jw _ hj]
 ·obtain⟨f1,f2⟩:=hF;have FR:=cw f1;have g1:=FR.1;have g2:=FR.2;clear FR;refine bc fun bf=>?_;obtain⟨⟨_,ga⟩,gb⟩:=g1;refine bf ?_;have hl:=eX hX f2;have l1:rr.length+(new++[Row.arm,Row.block]).length=rr.length+2+new.length:=by simp only[List.length_append,List.length_cons,List.length_nil];omega
  rw[l1]at f2 hl;rw[hlen]at hE⊢;have Zw:lP M (-1:: -1::mr).length iW:=by
   have h1:=pd (n':=mr.length+2) hM (by omega);have h2:=qO h1 (by rw[List.length_cons];omega) (by rw[aE];omega);have h3:lP M (mr.length+2) iW:=qO h2 (by omega) (by omega);exact h3
  have hEi:lL M (tE aB (av+1)) (rr.length+2+new.length):=by
   intro m q he;cases Jc:aB with
   |nil=>rw[Jc]at he;cases he
   |cons p n0=>
    rw[Jc]at he hE;simp only[tE]at he;refine bc fun bf=>?_;cases he;obtain⟨pp,e1,e2,e3⟩:=hE p.1 (av-p.2) rfl;refine bf ?_;exact⟨pp,e1,by exact ai e2,e3⟩
  refine bc fun bf=>?_;obtain⟨w,b',hw,ha⟩:=hP.good X M hX g2 Zw hEi ((b.tell tv).tell AL) (by show b.told.length+1+1<=rr.length+1+1;exact ai hb);refine bf ?_;have LV:=ha.told (by simp only[List.length_cons];exact ai hl);have mY:bP X (rr.length+2) (.N []) ((b.tell tv).tell AL)->bP X rr.length (.N []) b:=fun z=>by
   refine Ob hX ga hb ?_;exact PJ hX gb (by show b.told.length+1<=rr.length+1;exact ai hb) z
  refine⟨w,Oe w b' jW,?_,?_⟩
  ·show fL _ (DL (n+1)-1) _ _ _ _;rw[V1];exact j0 fun d hd=>Of (jA (ai hd)) (aZ hb hl) (by omega) (hw.at_ (by unfold DL;exact ai hd))
  ·induction w using Way.casesOn with
   |done=>
    have h1:b'.told.length<=rr.length+1+1+new.length:=ha.1;exact⟨by show b'.told.length+1<=_;exact ai h1,fun z=>mY (ha.2 (wV hX f2 (by omega) z))⟩
   |left=>
    refine bc fun bf=>?_;obtain⟨m,q,p,he,Ho,h1,h2,h3⟩:=ha;refine bf ?_;cases Jc:aB with
    |nil=>rw[Jc]at he;cases he
    |cons p0 n0=>
     have hp0:=(hp.ac p0 (by rw[Jc];exact List.mem_cons_self)).1;rw[Jc]at he;simp only[tE]at he;rcases he with _|_;have eq:av+1-p0.2=(av-p0.2)+1:=by omega
     rw[eq]at h1 h3;exact⟨p0.1,av-p0.2,p,rfl,Ho,h1,h2,fun z=>mY (h3 z)⟩
   |gn=>exact⟨LV,fun z=>mY (ha.2 z)⟩
end
noncomputable def Ma(X:PX)(M:Nat->Int)(D0 a a':Nat)(kQ:Option (Nat×Nat))(x:D):Prop:=lL M kQ a'->∀b,b.told.length+1<=a->∃w b',fL X.pf D0 x b w b'/\After X M a a' kQ (b.tell bF) w b'
noncomputable def A3(n N:Nat)(f:SF):=Piece (fun X M a a' kQ=>Ma X M (DL n-1) a a' kQ (cy f)) N
noncomputable def Ov(n:Nat)(C:Cl)(sv:Bool)(fn:Nat)(f:SF):Prop:=∀(fr:Fr) (rr:List Row) (mr:List Int) (aB:List (Nat×Nat)) (av γ:Nat) (Q:KV),Pre n sv (rr.drop 1) mr aB av->
 (∀new gN gG τ,A3 n (BS n-2) f aB av rr mr new gN->Q (.d .none) (cS fr (new++rr) gN aB 0 av gG τ))->C fn [.b 4,.d (cy f)] (cS fr rr mr aB 0 av γ []) Q
section
variable{C:Cl}{n:Nat}{sv:Bool}
noncomputable def PR:SF->Nat
 |.sel _ _ _=>dM
 |_=>du
noncomputable def V2:SF->Prop
 |.rU _ _ _ _=>True
 |.pY _ _ _ _ _ _ _=>True
 |.sel _ a _=>a≠[]
 |_=>False
theorem tF(hG:iy C){f:SF}(hf:V2 f)(hS:Ov (n+1) C sv (PR f) f):uF (n+1) (Run C) sv f:=by
 intro fr rr mr aB av γ Q hp k;have pN:=i9 n;have hr:=hp.rl;rw[dH]at hr;have go:∀K:KV,(∀gG τ new gN,A3 (n+1) (BS (n+1)-2) f aB av (.cP::rr) mr new gN->K (.d .none) (cS fr (new++.cP::rr) gN aB 0 av gG τ))->C (PR f) [.b 4,.d (cy f)] (cS fr (.cP::rr) mr aB 0 av γ []) K:=
  fun K hK=>hS fr (.cP::rr) mr aB av γ K hp fun new gN gG τ hP=>hK gG τ new gN hP
 have fin:∀gG τ new gN,A3 (n+1) (BS (n+1)-2) f aB av (.cP::rr) mr new gN->Q (.d .none) (cS fr (new++.cP::rr) gN aB 0 av gG τ):=by
  intro gG τ new gN hP;have L5:=hP.len;have MO:=hP.jZ;rw[dH]at L5 MO;have kk:=k (new++[.cP]) gN gG τ ⟨by rw[List.length_append,dH,List.length_singleton];omega,by rw[dH];omega,hP.keep,hP.FL.app (b:=[.cP]) ⟨trivial,trivial⟩,fun X M hX hF hM hE b hb=>?_⟩
  ·rw[List.append_assoc]at kk;exact kk
  ·obtain⟨g1,g2⟩:=cw hF;have e1:rr.length+(new++[Row.cP]).length=(Row.cP::rr).length+new.length:=by simp only[List.length_append,List.length_cons,List.length_nil];omega
   rw[e1]at hE⊢;obtain⟨w,b',h1,h2⟩:=hP.good X M hX g2 hM hE b (by rw[List.length_cons];exact ai hb);exact⟨w,b',h1,h2.pre fun z=>wU hX g1.2 hb z⟩
 induction f using SF.casesOn with
 |rU l c b o=>
  refine hG.lay .cP fr rr mr aB 0 av γ _ (ai hr) fun h1 e1=>?_;have e1:h1=0:=by rw[e1];rfl
  subst e1;refine go _ fun gG τ new gN hP=>?_;exact fin gG [] new gN hP
 |pY l c b l' t u o=>
  refine hG.lay .cP fr rr mr aB 0 av γ _ (ai hr) fun h1 e1=>?_;have e1:h1=0:=by rw[e1];rfl
  subst e1;refine go _ fun gG τ new gN hP=>?_;exact fin gG [] new gN hP
 |sel l a o=>
  obtain⟨a0,a',rfl⟩:∃a0 a',a=a0::a':=by
   induction a using List.casesOn with
   |nil=>exact absurd rfl hf
   |cons a0 a'=>exact⟨a0,a',rfl⟩
  rcases a0 with _|_
  all_goals
   refine hG.lay .cP fr rr mr aB 0 av γ _ (ai hr) fun h1 e1=>?_;have e1:h1=0:=by rw[e1];rfl
   subst e1;refine go _ fun gG τ new gN hP=>?_;exact fin gG [] new gN hP
 |_=>exact hf.elim
theorem Ow{X:PX}{M:Nat->Int}(hX:nU X){f:SF}{c:eS}{how:Option Bool}{ahead:List Str}{body other:List D}{kQ:Option (Nat×Nat)}{n2 a pl p1 p2 o out:Nat}(hc:gu c)(RG:∀s∈ahead,ku s)(p6:ahead.length=C4 how)
  (xf:∀b,bP X (a+pl) (.N ahead.reverse) b->bP X a (.N []) b) (fc:gJ X.pf.R M (a+pl) (aw c))
  (ft:idx X.pf.R (Int.ofNat (a+pl+(aw c).length))=some (bV M (.bu (cE c.ent) (bA c.aP) c.args.length how o)))
  (fj:idx X.pf.R (Int.ofNat p1)=some (bV M (.gL out))) (ho:M o=Int.ofNat (p1+1)) (uH:M out=Int.ofNat p2) (h1:a+pl+(aw c).length+1<=p1) (h2:p1+1<=p2)
  (gb:G2 X M (DL n) (a+pl+(aw c).length+1) p1 kQ body) (go:G2 X M (DL n2) (p1+1) p2 kQ other)
  (hw:∀b w b',b.told.length<=90000->(iC X.pf.gI (cU b how ahead c).asked (Int.ofNat 2)=Int.ofNat 0->WalkL X.pf (DL n2) other (cU b how ahead c) w b')->(¬iC X.pf.gI (cU b how ahead c).asked (Int.ofNat 2)=Int.ofNat 0->WalkL X.pf (DL n) body (cU b how ahead c) w b')->fL X.pf (DL (n+1)-1) (cy f) b w b'):
  Ma X M (DL (n+1)-1) a p2 kQ (cy f):=by
 intro hE b hb;have hl:=eX hX ft;have ZA:=eX hX fj;have LV:(bO (b.tell bF) c.args).told.length<=a+pl+(aw c).length:=by
  have h3:=ub c.args (a:=a+pl) (b:=b.tell bF) (by show b.told.length+1<=_;exact ai hb);unfold aw;refine az (List.length_append) ?_;exact ai h3
 have htt:(cU b how ahead c).told.length<=a+pl+(aw c).length+1:=by
  show(bO (b.tell bF) c.args).told.length+1<=_;exact ai LV
 have ZC:ahead.reverse.length<=50:=by
  refine az (List.length_reverse) ?_;refine az (p6) ?_;rcases how with _|_<;>simp[C4]
 have mY:(iC X.pf.gI (cU b how ahead c).asked (Int.ofNat 2)=Int.ofNat 0->bP X (p1+1) (.N []) (cU b how ahead c))->(¬iC X.pf.gI (cU b how ahead c).asked (Int.ofNat 2)=Int.ofNat 0->bP X (a+pl+(aw c).length+1) (.N []) (cU b how ahead c))->bP X a (.N []) (b.tell bF):=fun z0 z1=>by
  refine xf _ ?_;refine LK hX hc ZC fc (by show b.told.length+1<=_;exact ai hb) ?_;rw[List.reverse_reverse];exact Ja hX hc RG p6 ft ho (ai h1) LV z0 z1
 by_cases hz:iC X.pf.gI (cU b how ahead c).asked (Int.ofNat 2)=Int.ofNat 0
 ·obtain⟨w,b',w1,a1⟩:=go hE (cU b how ahead c) (aZ h1 htt);exact⟨w,b',hw b w b' (aZ hb hl) (fun _=>w1) (fun z=>absurd hz z),a1.pre fun z=>mY (fun _=>z) (fun q=>absurd hz q)⟩
 ·have PS:lL M kQ p1:=fun m q he=>by
   refine bc fun bf=>?_;obtain⟨p,e1,e2,e3⟩:=hE m q he;refine bf ?_;exact⟨p,e1,by exact aZ h2 e2,e3⟩
  refine bc fun bf=>?_;obtain⟨w,b',w1,a1⟩:=gb PS (cU b how ahead c) htt;refine bf ?_;refine⟨w,b',hw b w b' (aZ hb hl) (fun z=>absurd z hz) (fun _=>w1),?_⟩;have a2:After X M (a+pl+(aw c).length+1) p2 kQ (cU b how ahead c) w b':=a1.post fun _ ht=>⟨by exact aZ h2 ht,fun z=>wW hX fj uH (ai h2) z⟩;exact a2.pre fun z=>mY (fun q=>absurd q hz) (fun _=>z)
theorem y6{f:SF}{c:eS}{how:Option Bool}{ahead:List Str}{body other:List D}{n2:Nat}(Bh:n2<=n){aB:List (Nat×Nat)}{av:Nat}{rr:List Row}{mr:List Int}{pre eK eL:List Row}{iW uI:List Int}(hc:gu c)(RG:∀s∈ahead,ku s)(p6:ahead.length=C4 how)(Ox:pre.length<=1)
  (hpm:∀n,jz n pre) (xf:∀(X:PX) (M:Nat->Int) (a:Nat) (b:Bk),nU X->gJ X.pf.R M a pre->bP X (a+pre.length) (.N ahead.reverse) b->bP X a (.N []) b)
  (P1:qM n (2*BS n) body aB av (.bu (cE c.ent) (bA c.aP) c.args.length how mr.length::(aw c++(pre++rr))) (-1:: -1::mr) eK iW)
  (P2:qM n2 (2*BS n2) other aB av (.gL (mr.length+1)::(eK++.bu (cE c.ent) (bA c.aP) c.args.length how mr.length::(aw c++(pre++rr)))) (eU iW mr.length (Row.gL (mr.length+1)::(eK++.bu (cE c.ent) (bA c.aP) c.args.length how mr.length::(aw c++(pre++rr)))).length) eL uI)
  (hw:∀(X:PX),nU X->∀b w b',b.told.length<=90000->(iC X.pf.gI (cU b how ahead c).asked (Int.ofNat 2)=Int.ofNat 0->WalkL X.pf (DL n2) other (cU b how ahead c) w b')->(¬iC X.pf.gI (cU b how ahead c).asked (Int.ofNat 2)=Int.ofNat 0->WalkL X.pf (DL n) body (cU b how ahead c) w b')->fL X.pf (DL (n+1)-1) (cy f) b w b'):
  A3 (n+1) (BS (n+1)-2) f aB av rr mr ((eL++[.gL (mr.length+1)])++((eK++[.bu (cE c.ent) (bA c.aP) c.args.length how mr.length])++(aw c++pre))) (eU uI (mr.length+1) (eL++.gL (mr.length+1)::(eK++.bu (cE c.ent) (bA c.aP) c.args.length how mr.length::(aw c++(pre++rr)))).length):=by
 have pN:=i9 n;have xg:=G7 Bh;have l1:=P1.len;have l2:=P2.len;have m1:=P1.jZ;have m2:=P2.jZ;have k1:=P1.keep;have k2:=P2.keep;have G9:=k1.1;have Oy:=k2.1;rw[aE]at m2 Oy;simp only[List.length_cons]at m1 G9;have tf:(aw c).length<=8:=by
  have ha:=kq c.args;have h2:=hc.args.1;have hf:=gw c.aP;have n5:=cT c.aP;unfold aw;rw[List.length_append,List.length_append];simp only[List.length_singleton];exact uK ha (qk 3 h2) (iq hf) n5
 have q1:rr.length+(eL++[Row.gL (mr.length+1)]++(eK++[Row.bu (cE c.ent) (bA c.aP) c.args.length how mr.length]++(aw c++pre))).length=rr.length+pre.length+(aw c).length+1+eK.length+1+eL.length:=by
  simp only[List.length_append,List.length_cons,List.length_nil];omega
 have q2:(eL++Row.gL (mr.length+1)::(eK++Row.bu (cE c.ent) (bA c.aP) c.args.length how mr.length::(aw c++(pre++rr)))).length=rr.length+pre.length+(aw c).length+1+eK.length+1+eL.length:=by
  simp only[List.length_append,List.length_cons];omega
 have q3:(Row.gL (mr.length+1)::(eK++Row.bu (cE c.ent) (bA c.aP) c.args.length how mr.length::(aw c++(pre++rr)))).length=rr.length+pre.length+(aw c).length+1+eK.length+1:=by
  simp only[List.length_append,List.length_cons];omega
 have q4:(Row.bu (cE c.ent) (bA c.aP) c.args.length how mr.length::(aw c++(pre++rr))).length=rr.length+pre.length+(aw c).length+1:=by
  simp only[List.length_append,List.length_cons];omega
 refine⟨?_,?_,?_,by
  rw[aE];exact((P2.FL.app (b:=[.gL (mr.length+1)]) ⟨by show mr.length+1<uI.length;exact aZ G9 Oy,trivial⟩).app (((P1.FL.mono (by omega)).app (b:=[.bu (cE c.ent) (bA c.aP) c.args.length how mr.length]) ⟨by show mr.length<uI.length;exact aZ G9 Oy,trivial⟩).app ((G3 _ _).app (hpm _)))),fun X M hX hF hM=>?_⟩
 ·rw[dH];simp only[List.length_append,List.length_cons,List.length_nil];omega
 ·rw[aE,dH];exact uK (qk 2 xg) m1 m2 (DR (6*BS n+200) (2))
 ·refine iV.set ⟨by exact aZ G9 Oy,fun j hj=>?_⟩ _ (by omega) (aZ G9 Oy);rw[k2.2 j (by rw[aE];exact aZ G9 hj),dJ _ (ai G9) (aZ G9 hj),if_neg (by exact Nat.ne_of_gt (ai hj)),k1.2 j (by simp only[List.length_cons];exact ai hj),jw _ (by rw[List.length_cons];exact ai hj),jw _ hj]
 ·obtain⟨fA,fB⟩:=cw hF;refine bc fun bf=>?_;obtain⟨fC,fD⟩:=cw fA;obtain⟨fE,fG⟩:=cw fC;obtain⟨fH,fI⟩:=cw fD;obtain⟨fJ,fK⟩:=cw fB;refine bf ?_;have e1:rr.length+(aw c++pre).length=rr.length+pre.length+(aw c).length:=by rw[List.length_append];omega
  have e2:rr.length+(eK++[Row.bu (cE c.ent) (bA c.aP) c.args.length how mr.length]++(aw c++pre)).length=rr.length+pre.length+(aw c).length+1+eK.length:=by
   simp only[List.length_append,List.length_cons,List.length_nil];omega
  rw[e1]at fH fI;rw[e2]at fJ fK;have fK':gJ X.pf.R M (rr.length+pre.length+(aw c).length+1+eK.length+1) eL:=fK;have fI':gJ X.pf.R M (rr.length+pre.length+(aw c).length+1) eK:=fI;have ZA:=eX hX fJ.2;have ZA:rr.length+pre.length+(aw c).length+1+eK.length<90000:=ZA;have ho:M mr.length=Int.ofNat (rr.length+pre.length+(aw c).length+1+eK.length+1):=by
   have h:=hM mr.length (Nat.le_refl _) (by rw[aE];exact aZ G9 Oy);rw[dJ _ (aZ G9 Oy) (aZ G9 Oy),if_neg (by exact Nat.ne_of_gt (by omega)),k2.2 mr.length (by rw[aE];exact ai G9),dJ _ (ai G9) (by omega),if_pos rfl,q3]at h;exact h.symm
  have uH:M (mr.length+1)=Int.ofNat (rr.length+pre.length+(aw c).length+1+eK.length+1+eL.length):=by
   have:=L4 hM (Nat.le_succ _) (by omega);rw[this,q2];rfl
  have V3:lP M (mr.length+2) uI:=qO (pd hM (by omega)) (by omega) (aZ G9 Oy);have hM2:lP M (mr.length+2) iW:=by
   have h3:=uZ k2 V3;exact qO h3 (by omega) (by omega)
  have g1:=P1.good X M hX (by rw[q4];exact fI') hM2;have g2:=P2.good X M hX (by rw[q3];exact fK') (pd V3 (by rw[aE];omega));rw[q4]at g1;rw[q3]at g2;refine az (q1) ?_;exact Ow (pl:=pre.length) (p1:=rr.length+pre.length+(aw c).length+1+eK.length) (o:=mr.length) (out:=mr.length+1) hX hc RG p6 (fun b=>xf X M rr.length b hX fE) fG fH.2 fJ.2 ho uH (by omega) (by omega) g1 g2 (hw X hX)
end
section
variable{C:Cl}{n:Nat}{sv:Bool}
theorem u0{n2:Nat}(Bh:n2<=n){rr Mb:List Row}{mr gN:List Int}{aB:List (Nat×Nat)}{av:Nat}(hp:Pre (n+1) sv rr mr aB av)(hr:Mb.length<=rr.length+3*BS n+150)(hm:gN.length<=mr.length+3*BS n+150)(Zz:mr.length<=gN.length):Oj n2 sv Mb gN aB av:=by
 have pN:=i9 n;have xg:=G7 Bh;have h1:rr.length+12*BS n<=89600:=by have:=hp.rl;rw[dH]at this;exact ai this
 have h2:mr.length+12*BS n<=89600:=by have:=hp.ml;rw[dH]at this;exact ai this
 have h3:=hp.bl;have h4:=hp.al;refine⟨by exact jI hr (qk 4 xg) h1,by exact jI hm (qk 4 xg) h2,hp.sv,by exact aZ Bh h3,fun p rI=>?_,by exact aZ Bh h4⟩;have:=hp.ac p rI;exact⟨this.1,by exact aZ Zz this.2⟩
theorem Oz(hG:iy C){l:Int}{c:eS}{body o:List D}(hc:gu c)(hB:uG n C sv body)(hO:uG n C sv o):Ov (n+1) (Run C) sv du (.rU l c body o):=by
 intro fr rr mr aB av γ Q hp k;have pN:=i9 n;have hr:rr.length+12*BS n<=89601:=by have:=Zu hp.rl;rw[dH]at this;exact ai this
 have hm:mr.length+12*BS n<=89600:=by have:=hp.ml;rw[dH]at this;exact ai this
 have R6:rr.length<=89409:=by exact aZ (qk 12 pN) hr
 have Xk:mr.length<=89408:=by exact aZ (qk 12 pN) hm
 have tf:(aw c).length<=8:=by
  have ha:=kq c.args;have h2:=hc.args.1;have hf:=gw c.aP;have n5:=cT c.aP;unfold aw;refine az (List.length_append) ?_;refine az (List.length_append) ?_;simp only[List.length_singleton];exact uK ha (qk 3 h2) (iq hf) n5
 show gC (ex G C 60) ((P.code du).take 2++(P.code du).drop 2) [(af,.b 4),(aD,.d (cy (.rU l c body o)))] (cS fr rr mr aB 0 av γ []) (fS Q);refine bq fun R hR=>?_;refine hG.new fr rr mr aB 0 av γ _ (by omega) ?_;refine hG.new fr rr (-1::mr) aB 0 av γ _ (by rw[List.length_cons];exact ai hm) ?_;refine hR [(af,.b 4),(aD,.d (cy (.rU l c body o))),(bH,.d (.str bB)),(ba,.d (.int l)),(aC,.d (.list [.tuple [.none,.str s_call,j8 l c,.list body]])),(dq,.d (.list o)),(iZ,.d (.int (Int.ofNat (mr.length+1)))),(dC,.d (.int (Int.ofNat mr.length)))] (cS fr rr (-1:: -1::mr) aB 0 av γ []) ?_;clear hR R;refine hG.xb l c fr rr (-1:: -1::mr) aB 0 av γ _ hc.args.1 (by omega) fun h1 e1=>?_;refine hG.lay (.bu (cE c.ent) (bA c.aP) c.args.length none mr.length) fr (aw c++rr) (-1:: -1::mr) aB h1 av γ _ (by rw[List.length_append];exact aZ R6 tf) fun h2 e2=>?_;have e0:h2=0:=by
  refine az (e2) ?_;refine az (e1) ?_;simp only[Bj];omega
 subst e0;refine hB fr (.bu (cE c.ent) (bA c.aP) c.args.length none mr.length::(aw c++rr)) (-1:: -1::mr) aB av γ _ (u0 (Nat.le_refl n) hp (Xh (by rw[List.length_cons,List.length_append];exact ai tf)) (by simp only[List.length_cons];omega) (by simp only[List.length_cons];omega)) fun eK iW pg S6 P1=>?_;have l1:=P1.len;have m1:=P1.jZ;have k1:=P1.keep.1;simp only[List.length_cons]at m1 k1;have yT:(eK++Row.bu (cE c.ent) (bA c.aP) c.args.length none mr.length::(aw c++rr)).length=rr.length+(aw c).length+1+eK.length:=by
  simp only[List.length_append,List.length_cons];omega
 refine hG.lay (.gL (mr.length+1)) fr (eK++Row.bu (cE c.ent) (bA c.aP) c.args.length none mr.length::(aw c++rr)) iW aB 0 av pg _ (uK hr tf l1 (iq yT)) fun h3 e3=>?_;have e3:h3=0:=by rw[e3];rfl
 subst e3;refine hG.put fr (.gL (mr.length+1)::(eK++Row.bu (cE c.ent) (bA c.aP) c.args.length none mr.length::(aw c++rr))) iW aB 0 av pg mr.length 0 _ (by rw[List.length_cons];exact uK hr tf l1 (iq yT)) (aZ hm m1) (ai k1) ?_;refine hO fr (.gL (mr.length+1)::(eK++Row.bu (cE c.ent) (bA c.aP) c.args.length none mr.length::(aw c++rr))) (eU iW mr.length (Row.gL (mr.length+1)::(eK++Row.bu (cE c.ent) (bA c.aP) c.args.length none mr.length::(aw c++rr))).length) aB av pg _ (u0 (Nat.le_refl n) hp (Xh (by rw[List.length_cons,yT];exact aZ tf l1)) (by rw[aE];exact ai m1) (by rw[aE];exact ai k1)) fun eL uI MP τ4 P2=>?_;have l2:=P2.len;have m2:=P2.jZ;have k2:=P2.keep.1;rw[aE]at m2 k2;refine hG.put fr (eL++.gL (mr.length+1)::(eK++Row.bu (cE c.ent) (bA c.aP) c.args.length none mr.length::(aw c++rr))) uI aB 0 av MP (mr.length+1) 0 _ (by rw[List.length_append,List.length_cons,yT];exact uK hr tf l1 l2) (jI hm m1 m2) (aZ k1 k2) ?_;have hP:=y6 (f:=.rU l c body o) (Nat.le_refl n) (pre:=[]) (ahead:=[]) hc (fun s hs=>by rcases hs with _|_) rfl (Nat.zero_le _) (fun _=>trivial) (fun X M a b _ _ z=>z) P1 P2 (fun X hX b w b' hb w0 w1=>by
  rw[V1];exact j0 fun d hd=>by
   induction d using Nat.casesAuxOn with
   |zero=>omega
   |succ d=>exact nO rfl (RO (jA (ai hd)) (AY (ai hd)) (AZ (ai hd)) hc (by omega) hX.gI (fun z=>(w0 z).at_ (by unfold DL;exact ai hd)) (fun z=>(w1 z).at_ (by unfold DL;exact ai hd))))
 have kk:=k _ _ MP [] hP;simp only[List.append_assoc,List.cons_append,List.nil_append,List.append_nil]at kk⊢;exact kk
theorem OA(hG:iy C){l l':Int}{c:eS}{t:Th}{u:Bool}{body o:List D}{n2:Nat}(Bh:n2<=n)(hc:gu c)(ht:gK t)(hB:uG n C sv body)(hO:uG n2 C sv o):Ov (n+1) (Run C) sv du (.pY l c body l' t u o):=by
 intro fr rr mr aB av γ Q hp k;have pN:=i9 n;have hr:rr.length+12*BS n<=89601:=by have:=Zu hp.rl;rw[dH]at this;exact ai this
 have hm:mr.length+12*BS n<=89600:=by have:=hp.ml;rw[dH]at this;exact ai this
 have R6:rr.length<=89409:=by exact aZ (qk 12 pN) hr
 have Xk:mr.length<=89408:=by exact aZ (qk 12 pN) hm
 have xg:=G7 Bh;have tf:(aw c).length<=8:=by
  have ha:=kq c.args;have h2:=hc.args.1;have hf:=gw c.aP;have n5:=cT c.aP;unfold aw;refine az (List.length_append) ?_;refine az (List.length_append) ?_;simp only[List.length_singleton];omega
 show gC (ex G C 60) ((P.code du).take 2++(P.code du).drop 2) [(af,.b 4),(aD,.d (cy (.pY l c body l' t u o)))] (cS fr rr mr aB 0 av γ []) (fS Q);refine bq fun R hR=>?_;refine hG.new fr rr mr aB 0 av γ _ (by omega) ?_;refine hG.new fr rr (-1::mr) aB 0 av γ _ (by rw[List.length_cons];exact ai hm) ?_;refine hR [(af,.b 4),(aD,.d (cy (.pY l c body l' t u o))),(bH,.d (.str bB)),(ba,.d (.int l)),(aC,.d (.list [.tuple [.none,.str s_call,j8 l c,.list body],.tuple [.none,.str bE,jt l' t u,.list o]])),(dq,.d .none),(iZ,.d (.int (Int.ofNat (mr.length+1)))),(dC,.d (.int (Int.ofNat mr.length)))] (cS fr rr (-1:: -1::mr) aB 0 av γ []) ?_;clear hR R;show gC (ex G C 60) (((P.code du).drop 2).take 2++(P.code du).drop 4) [(af,.b 4),(aD,.d (cy (.pY l c body l' t u o))),(bH,.d (.str bB)),(ba,.d (.int l)),(aC,.d (.list [.tuple [.none,.str s_call,j8 l c,.list body],.tuple [.none,.str bE,jt l' t u,.list o]])),(dq,.d .none),(iZ,.d (.int (Int.ofNat (mr.length+1)))),(dC,.d (.int (Int.ofNat mr.length)))] (cS fr rr (-1:: -1::mr) aB 0 av γ []) (fS Q);refine bq fun R hR=>?_;have fin:∀h1:Int,h1=0+1->R [(af,.b 4),(aD,.d (cy (.pY l c body l' t u o))),(bH,.d (.str bB)),(ba,.d (.int l)),(aC,.d (.list [.tuple [.none,.str s_call,j8 l c,.list body],.tuple [.none,.str bE,jt l' t u,.list o]])),(dq,.d .none),(iZ,.d (.int (Int.ofNat (mr.length+1)))),(dC,.d (.int (Int.ofNat mr.length))),(rh,.d (.str (qL (some u)))),(jP,.d (jt l' t u))] (cS fr (dE t::rr) (-1:: -1::mr) aB h1 av γ []):=by
  intro h0 e0;refine hR _ _ ?_;clear hR R;refine hG.xb l c fr (dE t::rr) (-1:: -1::mr) aB h0 av γ _ hc.args.1 (by rw[List.length_cons];exact ai hr) fun h1 e1=>?_;refine hG.lay (.bu (cE c.ent) (bA c.aP) c.args.length (some u) mr.length) fr (aw c++dE t::rr) (-1:: -1::mr) aB h1 av γ _ (by rw[List.length_append,List.length_cons];exact aZ R6 tf) fun h2 e2=>?_;have ez:h2=0:=by
   refine az (e2) ?_;refine az (e1) ?_;refine az (e0) ?_;simp only[Bj];omega
  subst ez;refine hB fr (.bu (cE c.ent) (bA c.aP) c.args.length (some u) mr.length::(aw c++dE t::rr)) (-1:: -1::mr) aB av γ _ (u0 (Nat.le_refl n) hp (Xh (by rw[List.length_cons,List.length_append,List.length_cons];exact ai tf)) (by simp only[List.length_cons];omega) (by simp only[List.length_cons];omega)) fun eK iW pg S6 P1=>?_;have l1:=P1.len;have m1:=P1.jZ;have k1:=P1.keep.1;simp only[List.length_cons]at m1 k1;have yT:(eK++Row.bu (cE c.ent) (bA c.aP) c.args.length (some u) mr.length::(aw c++dE t::rr)).length=rr.length+1+(aw c).length+1+eK.length:=by
   simp only[List.length_append,List.length_cons];omega
  refine hG.lay (.gL (mr.length+1)) fr (eK++Row.bu (cE c.ent) (bA c.aP) c.args.length (some u) mr.length::(aw c++dE t::rr)) iW aB 0 av pg _ (uK hr tf l1 (iq yT)) fun h3 e3=>?_;have e3:h3=0:=by rw[e3];rfl
  subst e3;refine hG.put fr (.gL (mr.length+1)::(eK++Row.bu (cE c.ent) (bA c.aP) c.args.length (some u) mr.length::(aw c++dE t::rr))) iW aB 0 av pg mr.length 0 _ (by rw[List.length_cons];exact uK hr tf l1 (iq yT)) (aZ hm m1) (ai k1) ?_;refine hO fr (.gL (mr.length+1)::(eK++Row.bu (cE c.ent) (bA c.aP) c.args.length (some u) mr.length::(aw c++dE t::rr))) (eU iW mr.length (Row.gL (mr.length+1)::(eK++Row.bu (cE c.ent) (bA c.aP) c.args.length (some u) mr.length::(aw c++dE t::rr))).length) aB av pg _ (u0 Bh hp (Xh (by rw[List.length_cons,yT];exact aZ tf l1)) (by rw[aE];exact ai m1) (by rw[aE];exact ai k1)) fun eL uI MP τ4 P2=>?_;have l2:=P2.len;have m2:=P2.jZ;have k2:=P2.keep.1;rw[aE]at m2 k2;refine hG.put fr (eL++.gL (mr.length+1)::(eK++Row.bu (cE c.ent) (bA c.aP) c.args.length (some u) mr.length::(aw c++dE t::rr))) uI aB 0 av MP (mr.length+1) 0 _ (by rw[List.length_append,List.length_cons,yT];exact fk5 hr (qk 2 xg) tf l1 l2) (uK hm (qk 2 xg) m1 m2) (aZ k1 k2) ?_;have hP:=y6 (f:=.pY l c body l' t u o) Bh (pre:=[dE t]) (ahead:=[bD t]) (how:=some u) hc (fun s hs=>by rw[List.mem_singleton]at hs;exact hs▸et ht) rfl (by simp) (fun _=>⟨sq _ _,trivial⟩) (fun X M a b hX hF z=>Df hX ht (by decide) hF.2 z) P1 P2 (fun X hX b w b' hb w0 w1=>by
   rw[V1];exact j0 fun d hd=>by
    induction d using Nat.casesAuxOn with
    |zero=>omega
    |succ d=>exact nO rfl (RP (jA (ai hd)) (mz (by omega)) (AY (by omega)) (AZ (ai hd)) hc ht (by omega) hX.gI (fun z=>(w0 z).at_ (by unfold DL;exact aZ (qk 10 Bh) hd)) (fun z=>(w1 z).at_ (by unfold DL;exact ai hd))))
  have kk:=k _ _ MP [] hP;simp only[List.append_assoc,List.cons_append,List.nil_append,List.append_nil]at kk⊢;exact kk
 rcases u with _|_
 all_goals
  refine hG.val t fr rr (-1:: -1::mr) aB 0 av γ _ (by omega) fun h1 e1=>?_;exact fin h1 e1
end
noncomputable def cH(g:Option Bool)(m:Nat):List Row:=match g with
 |none=>[]
 |some g=>[.j9 m,.const (match g with|false=>.ofNat 0|true=>.ofNat 1)]
noncomputable def gA(i:Nat):cR->List Row
 |.acc _ _ e aP _ _ _=>.iS i (cE e) (bA aP)::cg aP
 |.dt _ _ t u _=>[.jV i u,dE t]
 |.term _ _=>[.pJ i]
noncomputable def cA(i m:Nat)(a:cR):List Row:=gA i a++cH (jH a) m
theorem uf(i m:Nat)(a:cR):(cA i m a).length<=4:=by
 unfold cA;refine az (List.length_append) ?_;have h1:(gA i a).length<=2:=by
  induction a using cR.casesOn with
  |acc g l e aP fm body r=>rcases aP with _|_<;>simp[gA,cg]
  |dt g l t u r=>simp[gA]
  |term g r=>simp[gA]
 have h2:(cH (jH a) m).length<=2:=by
  cases jH a<;>simp[cH]
 exact aZ h1 h2
theorem ZD(g:Bool):gK (.lit (match g with|false=>.ofNat 0|true=>.ofNat 1)):=by
 intro j e;rcases g with _|_<;>rcases e with _|_<;>decide
section
variable{X:PX}{M:Nat->Int}{b:Bk}
theorem V4(hX:nU X){a0:cR}{i m a:Nat}{ol:List D}(hl:iN a0)(hi:i<=50)(DM:ol.length<=50)(hf:gJ X.pf.R M a (cA i m a0))(hm:M m=Int.ofNat (a+(cA i m a0).length))
  (k:bP X (a+(cA i m a0).length) (.O [] (fy i a0 ol)) b):bP X a (.O [] ol) b:=by
 obtain⟨f1,f2⟩:=cw hf;have opened:bP X (a+(cH (jH a0) m).length+(gA i a0).length) (.O [] (lH i (nP a0)::ol)) b->bP X (a+(cH (jH a0) m).length) (.O [] ol) b:=fun z=>by
  generalize a+(cH (jH a0) m).length=a1 at f2 z⊢
  induction a0 using cR.casesOn with
  |acc g l e aP fm body r=>
   induction aP using Option.casesOn with
   |none=>exact aX hX f2.2 (by decide) (Nat.lt_succ_self _) (lW (.inl rfl) (VL (AP e ⟨0,by decide⟩) (by omega))) (.inl ⟨rfl,rfl⟩) z
   |some t=>
    have to:=hl t rfl;refine LI hX to f2.1.2 ?_;exact aX hX f2.2 (by decide) (Nat.lt_succ_self _) (lW (.inl rfl) (VM (et to).2 (AP e ⟨1,by decide⟩) (by omega))) (.inl ⟨rfl,rfl⟩) z
  |dt g l t u r=>
   refine LI hX hl f2.1.2 ?_;exact aX hX f2.2 (by decide) (Nat.lt_succ_self _) (lW (.inr (.inl rfl)) (RD (et hl).2 (AM u) (by omega))) (.inl ⟨rfl,rfl⟩) z
  |term g r=>exact aX hX f2.2 (by decide) (Nat.lt_succ_self _) (lW (.inr (.inr rfl)) (Zt (by omega))) (.inl ⟨rfl,rfl⟩) z
 have e:a+(cA i m a0).length=a+(cH (jH a0) m).length+(gA i a0).length:=by
  unfold cA;rw[List.length_append];omega
 rw[e]at k hm;have ho:ka a0=match jH a0 with|some false=>false|_=>true:=rfl
 unfold fy at k;rw[ho]at k;generalize jH a0=g0 at f1 opened hm k;have ada:0<(gA i a0).length:=by rcases a0 with _|_<;>simp[gA]
 induction g0 using Option.casesOn with
 |none=>exact opened k
 |some g=>
  obtain⟨⟨_,h1⟩,h2⟩:=f1;refine LI hX (ZD g) h1 ?_;rcases g with _|_
  ·have hd:=t8 (C:=Run X.C2) (pf:=X.pf) (m:=M m) (g:=false) (ol:=ol) (b:=b);exact aX hX h2 (by decide) (by show a+1<_;have:(cH (some false) m).length=2:=rfl;exact ai (xC this)) hd (.inr (by rw[hm])) k
  ·have hd:=t8 (C:=Run X.C2) (pf:=X.pf) (m:=M m) (g:=true) (ol:=ol) (b:=b);exact aX hX h2 (by decide) (Nat.lt_succ_self _) hd (.inl ⟨rfl,rfl⟩) (opened k)
theorem R7{i m n:Nat}(h:m<n)(a:cR):jz n (cA i m a):=by
 refine jz.app ?_ ?_
 ·induction a using cR.casesOn with
  |acc g l e aP fm body r=>exact⟨trivial,AS _ _⟩
  |dt g l t u r=>exact⟨trivial,sq _ _,trivial⟩
  |term g r=>exact⟨trivial,trivial⟩
 ·cases jH a with
  |none=>trivial
  |some g=>exact⟨h,trivial,trivial⟩
noncomputable def eu:Nat->Nat->List cR->List Row
 |_,_,[]=>[]
 |i,m,a::as=>eu (i+1) (m+1) as++cA i m a
noncomputable def nQ:Nat->Nat->List Int->List cR->List Int
 |_,_,mr,[]=>mr
 |i,p,mr,a::as=>nQ (i+1) (p+(cA i mr.length a).length) (eU (-1::mr) mr.length ((p+(cA i mr.length a).length:Nat):Int)) as
theorem A4:∀(as:List cR) (i m:Nat),(eu i m as).length<=4*as.length:=by
 intro l0
 induction l0 with
 |nil=>
  intro _ _;exact Nat.le_refl _
 |cons a as ih=>
  intro i m;have h1:=ih (i+1) (m+1);have h2:=uf i m a;unfold eu;rw[List.length_append,List.length_cons];exact aZ h1 h2
theorem OB{n:Nat}:∀(as:List cR) (i m:Nat),m+as.length<=n->jz n (eu i m as):=by
 intro l0
 induction l0 with
 |nil=>
  intro _ _ _;exact trivial
 |cons a as ih=>
  intro i m h;rw[List.length_cons]at h;exact(ih (i+1) (m+1) (ai h)).app (R7 (ai h) a)
theorem FX:∀(as:List cR) (i p:Nat) (mr:List Int),(nQ i p mr as).length=mr.length+as.length:=by
 intro l0
 induction l0 with
 |nil=>
  intro _ _ _;exact rfl
 |cons a as ih=>
  intro i p mr;unfold nQ;rw[ih,aE,List.length_cons,List.length_cons];omega
theorem ug:∀(as:List cR) (i p:Nat) (mr:List Int),iV mr (nQ i p mr as):=by
 intro l0
 induction l0 with
 |nil=>
  intro _ _ _;exact iV.refl _
 |cons a as ih=>
  intro i p mr;unfold nQ;exact iV.trans ((iV.new mr (-1)).set _ (Nat.le_refl _) (Nat.lt_succ_self _)) (ih _ _ _)
theorem R8(hX:nU X):∀(as:List cR) (i a:Nat) (mr:List Int) (ol:List D),(∀x∈as,iN x)->i+as.length<=50->ol.length+as.length<=50->gJ X.pf.R M a (eu i mr.length as)->lP M mr.length (nQ i a mr as)->
  bP X (a+(eu i mr.length as).length) (.O [] ((opens i as).reverse++ol)) b->bP X a (.O [] ol) b:=by
 intro l0
 induction l0 with
 |nil=>
  intro _ _ _ _ _ _ _ _ _ k;exact k
 |cons x as ih=>
  intro i a mr ol hl h1 h2 hf hM k;rw[List.length_cons]at h1 h2;obtain⟨f1,f2⟩:=cw (c1:=cA i mr.length x) (c2:=eu (i+1) (mr.length+1) as) hf;unfold nQ at hM;have hk:=ug as (i+1) (a+(cA i mr.length x).length) (eU (-1::mr) mr.length ((a+(cA i mr.length x).length:Nat):Int));have hm:M mr.length=Int.ofNat (a+(cA i mr.length x).length):=by
   have h:=hM mr.length (Nat.le_refl _) (Nat.lt_of_lt_of_le (by rw[aE,List.length_cons];omega) hk.1);rw[hk.2 _ (by rw[aE,List.length_cons];omega),dJ _ (by rw[List.length_cons];omega) (by rw[List.length_cons];omega),if_pos rfl]at h;exact h.symm
  refine V4 hX (hl x List.mem_cons_self) (ai h1) (ai h2) f1 hm ?_;have DO:(eU (-1::mr) mr.length ((a+(cA i mr.length x).length:Nat):Int)).length=mr.length+1:=by rw[aE,List.length_cons]
  have hlen:(fy i x ol).length<=ol.length+1:=by
   unfold fy;split
   ·rw[List.length_cons];omega
   ·omega
  refine ih (i+1) (a+(cA i mr.length x).length) (eU (-1::mr) mr.length ((a+(cA i mr.length x).length:Nat):Int)) (fy i x ol) (fun y hy=>hl y (List.mem_cons_of_mem _ hy)) (ai h1) (aZ h2 hlen) (by rw[DO];exact f2) (by rw[DO];exact pd hM (Nat.le_succ _)) ?_;refine az (DO) ?_;have e1:a+(cA i mr.length x).length+(eu (i+1) (mr.length+1) as).length=a+(eu i mr.length (x::as)).length:=by
   show _=a+(eu (i+1) (mr.length+1) as++cA i mr.length x).length;rw[List.length_append];omega
  have e2:(opens (i+1) as).reverse++fy i x ol=(opens i (x::as)).reverse++ol:=by
   unfold fy;show _=(match ka x with|true=>lH i (nP x)::opens (i+1) as|false=>opens (i+1) as).reverse++ol;cases ka x<;>simp
  refine az (e1) ?_;refine az (e2) ?_;exact k
end
noncomputable def OC(C:Cl):Prop:=∀(i:Nat) (a:cR) (fr:Fr) (rr:List Row) (mr:List Int) (aB:List (Nat×Nat)) (av h:Int) (γ:Nat) (Q:KV),rr.length<=95000->mr.length<=95000->
 Q (.d .none) (cS fr (cA i mr.length a++rr) (eU (-1::mr) mr.length (cA i mr.length a++rr).length) aB h av γ [])->C eR [.b 4,.d (.int (Int.ofNat i)),.d (eJ a)] (cS fr rr mr aB h av γ []) Q
theorem V5{C:Cl}(hG:iy C):OC (Run C):=by
 intro i a fr rr mr aB av h γ Q hr hm k;show gC (ex G C 60) ((P.code eR).take 3++(P.code eR).drop 3) [(af,.b 4),(aW,.d (.int (Int.ofNat i))),(iF,.d (eJ a))] (cS fr rr mr aB h av γ []) (fS Q);refine bq fun R hR=>?_;have fin:∀h1:Int,h1=h->R [(af,.b 4),(aW,.d (.int (Int.ofNat i))),(iF,.d (eJ a)),(fq,.d (oR (jH a))),(cJ,.d (.str (kindS a))),(bI,.d (nV a)),(bo,.d (.list (p7 a))),(rg,.d (.int (Int.ofNat mr.length)))] (cS fr (cH (jH a) mr.length++rr) (-1::mr) aB h1 av γ []):=by
  intro h1 e1;subst e1;refine hR _ _ ?_;clear hR R;have hg:(cH (jH a) mr.length).length<=2:=by cases jH a<;>simp[cH]
  unfold cA at k;generalize jH a=g0 at hg k⊢
  induction a using cR.casesOn with
  |acc g l e aP fm body r=>
   have Du:=gw aP;have n5:=cT aP;refine hG.family aP fr (cH g0 mr.length++rr) (-1::mr) aB h1 av γ _ (by rw[List.length_append];exact aZ hr hg) fun h2 e2=>?_;refine hG.lay (.iS i (cE e) (bA aP)) fr (cg aP++(cH g0 mr.length++rr)) (-1::mr) aB h2 av γ _ (by rw[List.length_append,List.length_append];exact uK hr hg (iq Du) n5 (ai n5 (ai n5))) fun h3 e3=>?_;refine hG.put fr (.iS i (cE e) (bA aP)::(cg aP++(cH g0 mr.length++rr))) (-1::mr) aB h3 av γ mr.length h1 _ (by rw[List.length_cons,List.length_append,List.length_append];exact uK hr hg (iq Du) n5 (ai n5 (ai n5))) (by rw[List.length_cons];exact ai hm) (by rw[List.length_cons];omega) ?_;simp only[gA,List.cons_append,List.append_assoc]at k⊢;exact k
  |dt g l t u r=>
   refine hG.val t fr (cH g0 mr.length++rr) (-1::mr) aB h1 av γ _ (by rw[List.length_append];exact aZ hr hg) fun h2 e2=>?_;refine hG.lay (.jV i u) fr (dE t::(cH g0 mr.length++rr)) (-1::mr) aB h2 av γ _ (by rw[List.length_cons,List.length_append];exact aZ hr hg) fun h3 e3=>?_;refine hG.put fr (.jV i u::dE t::(cH g0 mr.length++rr)) (-1::mr) aB h3 av γ mr.length h1 _ (by rw[List.length_cons,List.length_cons,List.length_append];exact aZ hr hg) (by rw[List.length_cons];exact ai hm) (by rw[List.length_cons];omega) ?_;simp only[gA,List.cons_append,List.append_assoc,List.nil_append]at k⊢;exact k
  |term g r=>
   refine hG.lay (.pJ i) fr (cH g0 mr.length++rr) (-1::mr) aB h1 av γ _ (by rw[List.length_append];exact aZ hr hg) fun h3 e3=>?_;refine hG.put fr (.pJ i::(cH g0 mr.length++rr)) (-1::mr) aB h3 av γ mr.length h1 _ (by rw[List.length_cons,List.length_append];exact aZ hr hg) (by rw[List.length_cons];exact ai hm) (by rw[List.length_cons];omega) ?_;simp only[gA,List.cons_append,List.append_assoc,List.nil_append]at k⊢;exact k
 rw[uW]at fin⊢;cases hg:jH a with
 |none=>
  rw[hg]at fin;refine hG.new fr rr mr aB h av γ _ (by omega) ?_;exact fin h rfl
 |some g=>
  rw[hg]at fin;rcases g with _|_
  ·conv=>whnf
   refine hG.new fr rr mr aB h av γ _ (by omega) ?_;refine hG.RW (.ofNat 0) fr rr (-1::mr) aB h av γ _ (by omega) fun h1 e1=>?_;refine hG.lay (.j9 mr.length) fr (.const (.ofNat 0)::rr) (-1::mr) aB h1 av γ _ (by rw[List.length_cons];exact ai hr) fun h2 e2=>?_;exact fin h2 (by rw[e2,e1];simp only[Bj];omega)
  ·conv=>whnf
   refine hG.new fr rr mr aB h av γ _ (by omega) ?_;refine hG.RW (.ofNat 1) fr rr (-1::mr) aB h av γ _ (by omega) fun h1 e1=>?_;refine hG.lay (.j9 mr.length) fr (.const (.ofNat 1)::rr) (-1::mr) aB h1 av γ _ (by rw[List.length_cons];exact ai hr) fun h2 e2=>?_;exact fin h2 (by rw[e2,e1];simp only[Bj];omega)
noncomputable def DP(x:D)(l:Int)(alts:List D)(other:D)(ms:List D)(o:Nat)(rest:ak):ak:=(af,.b 4)::(aD,.d x)::(bH,.d (.str bB))::(ba,.d (.int l))::(aC,.d (.list alts))::(dq,.d other)::(dp,.d (.list ms))::(iZ,.d (.int (Int.ofNat (o+1))))::(dC,.d (.int (Int.ofNat o)))::rest
noncomputable def sr:List T:=[.expr (.call eR [(.var af),(.var aW),(.sub (.var aC) (.var aW))])]
theorem Jd{C:Cl}(hA:OC C){x:D}{l:Int}{alts ms:List D}{other:D}{o:Nat}{fr:Fr}{aB:List (Nat×Nat)}{av h:Int}{γ:Nat}{Q:KF}:∀(as pre:List cR) (rest:ak) (rr:List Row) (mr:List Int),alts=(pre++as).map eJ->(rest=[]\/∃v,rest=[(aW,.d v)])->pre.length+as.length<=50->rr.length+4*as.length<=95000->mr.length+as.length<=95000->
  (∀aG,((as=[]/\aG=rest)\/∃v,aG=[(aW,.d v)])->Q .next (DP x l alts other ms o aG) (cS fr (eu pre.length mr.length as++rr) (nQ pre.length rr.length mr as) aB h av γ []))->
  forL (ex G C 59) [aW] sr none (eE pre.length as.length) (DP x l alts other ms o rest) (cS fr rr mr aB h av γ []) Q:=by
 intro l0
 induction l0 with
 |nil=>
  intro pre rest rr mr _ _ _ _ _ k;exact k rest (.inl ⟨rfl,rfl⟩)
 |cons a as ih=>
  intro pre rest rr mr ha d9 h1 h2 h3 k;rw[List.length_cons]at h1 h2 h3;have hx:idx alts (Int.ofNat pre.length)=some (eJ a):=by
   have:=AQ (pre.map eJ) (eJ a) (as.map eJ);rw[List.length_map]at this;refine az (ha) ?_;refine az (List.map_append) ?_;refine az (List.map_cons) ?_;exact this
  have p6:=uf pre.length mr.length a;show forL (ex G C 59) [aW] sr none (.int (Int.ofNat pre.length)::eE (pre.length+1) as.length) (DP x l alts other ms o rest) (cS fr rr mr aB h av γ []) Q;refine az (dn) ?_;have e:pre.length+1=(pre++[a]).length:=by rw[List.length_append];rfl
  have el:(cA pre.length mr.length a++rr).length=rr.length+(cA pre.length mr.length a).length:=by rw[List.length_append];omega
  have go:∀R:ak->St->Prop,R (DP x l alts other ms o [(aW,.d (.int (Int.ofNat pre.length)))]) (cS fr (cA pre.length mr.length a++rr) (eU (-1::mr) mr.length (cA pre.length mr.length a++rr).length) aB h av γ [])->
    bind1 [aW] (.int (Int.ofNat pre.length)) (DP x l alts other ms o rest) fun ed=>gC (ex G C 59) sr ed (cS fr rr mr aB h av γ []) (wB R Q):=by
   intro R hR;rcases d9 with rfl|⟨v,rfl⟩
   all_goals
    conv=>whnf
    refine az (hx) ?_;refine aj (by unfold ah;exact ai h1) ?_;refine hA pre.length a fr rr mr aB av h γ _ (ai h2) (ai h3) ?_;exact hR
  refine go _ ?_;refine az (e) ?_;refine ih (pre++[a]) [(aW,.d (.int (Int.ofNat pre.length)))] _ _ (by rw[ha,List.append_assoc];rfl) (.inr ⟨_,rfl⟩) (by rw[<-e];exact ai h1) (by rw[el];exact aZ h2 p6) (by rw[aE,List.length_cons];exact ai h3) fun gX uB=>?_;have:=k gX (.inr (by
   rcases uB with⟨_,rfl⟩|uB
   ·exact⟨_,rfl⟩
   ·exact uB))
  rw[<-e,el,aE,List.length_cons];have e3:eu pre.length mr.length (a::as)++rr=eu (pre.length+1) (mr.length+1) as++(cA pre.length mr.length a++rr):=List.append_assoc _ _ _;rw[e3]at this;exact this
noncomputable def PT(lo hi:Nat)(m1 m2:List Int):Prop:=m1.length<=m2.length/\∀m,m<m1.length->m<lo\/hi<=m->gd m2 m=gd m1 m
noncomputable def OD(pf:PF)(D0:Nat)(a:cR)(b:Bk)(w:Way)(b':Bk):Prop:=∀d,D0<=d->sj (Cd G P d) pf a b w b'
noncomputable def GoodC(X:PX)(M:Nat->Int)(D0 p pend:Nat)(kQ:Option (Nat×Nat))(a:cR):Prop:=lL M kQ pend->∀b,b.told.length<=p->∃w b',OD X.pf D0 a b w b'/\After X M p pend kQ b w b'
noncomputable def bK(n:Nat):Nat:=2*BS n+42
structure V6(n:Nat)(a:cR)(aB:List (Nat×Nat))(av mk out:Nat)(rr:List Row)(mr:List Int)(c:List Row)(Jv:List Int):Prop where
 len:c.length<=bK n
 jZ:Jv.length<=mr.length+bK n
 keep:PT mk (mk+1) mr Jv
 at_:gd Jv mk=(rr.length:Int)
 Xl:out<mr.length->jz Jv.length c
 good:∀X M,nU X->gJ X.pf.R M rr.length c->lP M mr.length Jv->∀pend:Nat,M out=Int.ofNat pend->rr.length+c.length<=pend->pend<=90000->GoodC X M (DL n) rr.length pend (tE aB av) a
noncomputable def qP:List T:=[.asg (.tup [fq,cJ,bI,bo]) (.sub (.var aC) (.var aW)),.expr (.call ee [(.var af),(.sub (.var dp) (.var aW)),(.var aN)]),.fM (.cmp .eq (.var cJ) (.c (.str bw))) [.expr (.call cB [(.var af),(.tup [(.c (.str cO)),(.sub (.var bI) (.c (.int (.ofNat 4))))])]),.expr (.call eg [(.var af),(.sub (.var bI) (.c (.int (.ofNat 5))))])] [],.expr (.call bW [(.var af),(.var bo)]),.expr (.call cB [(.var af),(.tup [(.c (.str jN)),(.var iZ)])])]
noncomputable def Xm(at_ g k d s:D):ak:=[(aW,.d at_),(aN,.d (.int 0)),(fq,.d g),(cJ,.d k),(bI,.d d),(bo,.d s)]
noncomputable def A5(rest:ak):Prop:=(∃v,rest=[(aW,.d v),(aN,.d (.int 0))])\/∃a g k d s,rest=Xm a g k d s
noncomputable def u4:cR->Option (List D)
 |.acc _ _ _ _ _ body _=>some body
 |_=>none
theorem bs0(n:Nat):BS 0<=BS n:=G7 (Nat.zero_le n)
theorem OE{C:Cl}{n:Nat}{sv:Bool}(hG:iy C){x:D}{l:Int}{alts ms:List D}{other:D}{o i mk:Nat}{rest:ak}(d9:A5 rest){a:cR}(hi:i<=50)(hx:idx alts (Int.ofNat i)=some (eJ a))(hms:idx ms (Int.ofNat i)=some (.int (Int.ofNat mk)))
  (hA:∀body,u4 a=some body->L3 n C body) (hR:uG 0 C sv (p7 a)) {fr:Fr} {rr:List Row} {mr:List Int} {aB:List (Nat×Nat)} {av γ:Nat} {R:ak->St->Prop} {Q:KF} (hp:Pre n sv rr mr aB av) (hr:rr.length+3*bK n<=89900) (hm:mr.length+3*bK n<=89900) (p6:aB.length+1+n<=10) (Ha:mk<mr.length)
  (k:∀c Jv gG aG,A5 aG->V6 n a aB av mk (o+1) rr mr c Jv->R (DP x l alts other ms o aG) (cS fr (c++rr) Jv aB 0 av gG [])):
  bind1 [aW] (.int (Int.ofNat i)) (DP x l alts other ms o rest) fun ed=>gC (ex G C 59) qP ed (cS fr rr mr aB 0 av γ []) (wB R Q):=by
 have pN:=i9 n;have hb0:=bs0 n;have hr:rr.length+6*BS n<=89774:=by unfold bK at hr;exact ai hr
 have hm:mr.length+6*BS n<=89774:=by unfold bK at hm;exact ai hm
 have R6:rr.length<=89678:=by exact aZ (qk 6 pN) hr
 have Xk:mr.length<=89678:=by exact aZ (qk 6 pN) hm
 rw[uW]at hx;show gC (ex G C 59) (qP.take 2++qP.drop 2) (jb aW (.d (.int (Int.ofNat i))) (DP x l alts other ms o rest)) (cS fr rr mr aB 0 av γ []) (wB R Q);refine bq fun R2 t6=>?_;have V7:∀(Mb:List Row) (gN:List Int),Mb.length+74<=90000->gN.length+74<=90000->mr.length<=gN.length->Oj 0 sv Mb gN aB av:=fun Mb gN q1 q2 q3=>by
  have h3:=hp.bl;have h4:=hp.al;refine⟨by show Mb.length+64+10<=90000;omega,by show gN.length+64+10<=90000;omega,hp.sv,by exact ai h3,fun p rI=>?_,by exact ai p6⟩;have:=hp.ac p rI;exact⟨this.1,Nat.lt_of_lt_of_le this.2 q3⟩
 have fin:R2 (DP x l alts other ms o (Xm (.int (Int.ofNat i)) (oR (jH a)) (.str (kindS a)) (nV a) (.list (p7 a)))) (cS fr rr (eU mr mk rr.length) aB 0 av γ []):=by
  refine t6 _ _ ?_;clear t6 R2;have simple:(u4 a=none)->(∀C' pf b w b',oZ C' pf (p7 a) b w b'->sj C' pf a b w b')->gC (ex G C 59) (qP.drop 3) (DP x l alts other ms o (Xm (.int (Int.ofNat i)) (oR (jH a)) (.str (kindS a)) (nV a) (.list (p7 a)))) (cS fr rr (eU mr mk rr.length) aB 0 av γ []) (wB R Q):=by
   intro _ hch;refine hR fr rr (eU mr mk rr.length) aB av γ _ (V7 rr _ (ai hr) (by rw[aE];exact ai hm) (by rw[aE];omega)) fun new iW pg S6 hP=>?_;have q1:new.length<=32:=hP.len;have q2:=hP.jZ;have q3:=hP.keep;have PU:=q3.1;rw[aE]at q2 PU;have q2:iW.length<=mr.length+32:=q2;refine hG.lay (.gL (o+1)) fr (new++rr) iW aB 0 av pg _ (by rw[List.length_append];exact aZ R6 q1) fun h3 e3=>?_;have e3:h3=0:=by rw[e3];rfl
   subst e3;refine k (.gL (o+1)::new) iW pg _ (.inr ⟨_,_,_,_,_,rfl⟩) ⟨by rw[List.length_cons];unfold bK;exact ai q1,by unfold bK;exact ai q2,⟨by omega,fun m h1 h2=>?_⟩,?_,?_,fun X M hX hF hM pend uH Bl xf hE b hb=>?_⟩
   ·rw[q3.2 m (by rw[aE];omega),dJ _ Ha h1,if_neg (by omega)]
   ·rw[q3.2 mk (by rw[aE];omega),dJ _ Ha Ha,if_pos rfl]
   ·exact fun ho=>⟨Nat.lt_of_lt_of_le ho PU,hP.FL⟩
   ·obtain⟨f1,f2⟩:=hF;rw[List.length_cons]at Bl;have PS:lL M (tE aB av) (rr.length+new.length):=fun m q he=>by
     refine bc fun bf=>?_;obtain⟨p,e1,e2,e3⟩:=hE m q he;refine bf ?_;exact⟨p,e1,by exact aZ Bl e2,e3⟩
    refine bc fun bf=>?_;obtain⟨w,b',w1,a1⟩:=hP.good X M hX f1 (by rw[aE];exact hM) PS b hb;refine bf ?_;refine⟨w,b',fun d hd=>hch _ _ _ _ _ (w1.at_ (by unfold DL at hd⊢;exact ai hd)),?_⟩;exact a1.post fun _ ht=>⟨by exact aZ Bl ht,fun z=>wW hX f2 uH (ai Bl) z⟩
  induction a using cR.casesOn with
  |dt g l0 t u r=>
   have:=simple rfl (fun _ _ _ _ _ h=>h);exact this
  |term g r=>
   have:=simple rfl (fun _ _ _ _ _ h=>h);exact this
  |acc g l0 e aP fm body r=>
   have hA:=hA body rfl;refine hG.lay (.cL (d4 fm)) fr rr (eU mr mk rr.length) aB 0 av γ _ (by omega) fun h1 e1=>?_;have e1:h1=0:=by rw[e1];rfl
   subst e1;refine hA fr (.cL (d4 fm)::rr) (eU mr mk rr.length) aB av γ _ (by rw[List.length_cons];exact ai hr) (by rw[aE];exact ai hm) hp.bl (fun p rI=>⟨(hp.ac p rI).1,by rw[aE];exact(hp.ac p rI).2⟩) p6 fun eK iW pg S6 P1=>?_;have q1:=P1.len;have q2:=P1.jZ;have q3:=P1.keep;have PU:=q3.1;rw[aE]at q2 PU;refine hR fr (eK++.cL (d4 fm)::rr) iW aB av pg _ (V7 _ _ (by rw[List.length_append,List.length_cons];exact aZ hr q1) (aZ hm q2) (by omega)) fun eL Jw γ3 τ3 P2=>?_;have s1:eL.length<=32:=P2.len;have s2:Jw.length<=iW.length+32:=P2.jZ;have s3:=P2.keep;have ZE:=s3.1;refine hG.lay (.gL (o+1)) fr (eL++(eK++.cL (d4 fm)::rr)) Jw aB 0 av γ3 _ (by rw[List.length_append,List.length_append,List.length_cons];exact jI hr q1 s1) fun h3 e3=>?_;have e3:h3=0:=by rw[e3];rfl
   subst e3
   conv=>whnf
   have kk:=k (.gL (o+1)::(eL++(eK++[.cL (d4 fm)]))) Jw γ3 (Xm (.int (Int.ofNat i)) (oR g) (.str bw) (qJ l0 e aP fm body) (.list r)) (.inr ⟨_,_,_,_,_,rfl⟩) ⟨by simp only[List.length_cons,List.length_append,List.length_nil];unfold bK;exact aZ q1 s1,by unfold bK;exact aZ q2 s2,⟨by exact aZ PU ZE,fun m h1 h2=>?_⟩,?_,?_,fun X M hX hF hM pend uH Bl xf hE b hb=>?_⟩
   ·simp only[List.cons_append,List.append_assoc,List.nil_append]at kk;exact kk
   ·rw[s3.2 m (aZ PU h1),q3.2 m (by rw[aE];omega),dJ _ Ha h1,if_neg (by omega)]
   ·rw[s3.2 mk (aZ Ha PU),q3.2 mk (by rw[aE];omega),dJ _ Ha Ha,if_pos rfl]
   ·exact fun ho=>⟨by show o+1<Jw.length;exact jI PU ZE ho,P2.FL.app ((P1.FL.mono ZE).app (b:=[.cL (d4 fm)]) ⟨trivial,trivial⟩)⟩
   ·obtain⟨f1,f2⟩:=hF;have R9:=cw f1;have f3:=R9.1;have f4:=R9.2;clear R9;have Sa:=cw f3;have f5:=Sa.1;have f6:=Sa.2;clear Sa;simp only[List.length_cons,List.length_append,List.length_nil]at Bl;have e4:rr.length+(eK++[Row.cL (d4 fm)]).length=rr.length+1+eK.length:=by simp only[List.length_append,List.length_cons,List.length_nil];omega
    have e5:rr.length+(eL++(eK++[Row.cL (d4 fm)])).length=rr.length+1+eK.length+eL.length:=by simp only[List.length_append,List.length_cons,List.length_nil];omega
    have e6:(eK++Row.cL (d4 fm)::rr).length=rr.length+1+eK.length:=by simp only[List.length_append,List.length_cons];omega
    rw[e4]at f4;rw[e5]at f2;have hlf:=eX hX f2;have hM1:lP M (eU mr mk rr.length).length iW:=by rw[aE];exact uZ s3 hM
    have g1:=P1.good X M hX f6 hM1;have g2:=P2.good X M hX (by rw[e6];exact f4) (pd hM (by omega));rw[e6]at g2;have l3:(Row.cL (d4 fm)::rr).length=rr.length+1:=rfl;rw[l3]at g1;refine bc fun bf=>?_;obtain⟨w1,b1,ZF,ht1,Hm⟩:=g1 (b.tell (xa fm)) (by show b.told.length+1<=_;exact ai hb);refine bf ?_;have mY:bP X (rr.length+1) (.N []) (b.tell (xa fm))->bP X rr.length (.N []) b:=fun z=>yr hX f5.2 hb z;have PS:lL M (tE aB av) (rr.length+1+eK.length+eL.length):=fun m q he=>by
     refine bc fun bf=>?_;obtain⟨p,e1,e2,e3⟩:=hE m q he;refine bf ?_;exact⟨p,e1,by exact aZ Bl e2,e3⟩
    induction w1 using Way.casesOn with
    |gn=>exact⟨.gn,b1,fun d hd=>⟨.gn,b1,ZF.at_ hd,by omega,rfl,rfl⟩,ht1,fun z=>mY (Hm z)⟩
    |done=>
     refine bc fun bf=>?_;obtain⟨w,b',w2,a2⟩:=g2 PS (b1.tell fQ) (by show b1.told.length+1<=_;exact Hm.1);refine bf ?_;refine⟨w,b',fun d hd=>⟨.done,b1,ZF.at_ hd,by omega,w2.at_ (by unfold DL at hd⊢;exact ai hd)⟩,?_⟩;have a3:After X M (rr.length+1+eK.length) pend (tE aB av) (b1.tell fQ) w b':=a2.post fun _ ht=>⟨by exact aZ Bl ht,fun z=>wW hX f2 uH (ai Bl) z⟩;exact a3.pre fun z=>mY (Hm.2 z)
    |left=>
     refine bc fun bf=>?_;obtain⟨w,b',w2,a2⟩:=g2 PS (b1.tell fQ) (by show b1.told.length+1<=_;exact Hm.1);refine bf ?_;refine⟨w,b',fun d hd=>⟨.left,b1,ZF.at_ hd,by omega,w2.at_ (by unfold DL at hd⊢;exact ai hd)⟩,?_⟩;have a3:After X M (rr.length+1+eK.length) pend (tE aB av) (b1.tell fQ) w b':=a2.post fun _ ht=>⟨by exact aZ Bl ht,fun z=>wW hX f2 uH (ai Bl) z⟩;exact a3.pre fun z=>mY (Hm.2 z)
 rcases d9 with⟨v,rfl⟩|⟨a0,g0,k0,d0,s0,rfl⟩
 all_goals
  conv=>whnf
  refine az (hx) ?_
  conv=>whnf
  refine aj (by unfold ah;omega) ?_
  conv=>whnf
  refine az (hms) ?_;refine aj (by unfold ah;omega) ?_;refine hG.put fr rr mr aB 0 av γ mk 0 _ (by omega) (by omega) Ha ?_;exact fin
structure V8(n:Nat)(as:List cR)(aB:List (Nat×Nat))(av u5 out i0:Nat)(rr:List Row)(mr:List Int)(c:List Row)(MQ:List Int):Prop where
 len:c.length<=as.length*bK n
 jZ:MQ.length<=mr.length+as.length*bK n
 keep:PT (u5+i0) (u5+i0+as.length) mr MQ
 Xl:out<mr.length->jz MQ.length c
 good:∀j a,aq as j=some a->∃p:Nat,rr.length<=p/\gd MQ (u5+i0+j)=(p:Int)/\∀X M,nU X->gJ X.pf.R M rr.length c->lP M mr.length MQ->∀pend:Nat,M out=Int.ofNat pend->rr.length+c.length<=pend->pend<=90000->p<=pend/\GoodC X M (DL n) p pend (tE aB av) a
theorem xh:∀(k i0 i:Nat),i<k->idx (eE i0 k) (Int.ofNat i)=some (.int (Int.ofNat (i0+i)))
 |0,_,_,h=>absurd h (Nat.not_lt_zero _)
 |k+1,i0,0,_=>rfl
 |k+1,i0,i+1,h=>by
  have:=xh k (i0+1) i (Nat.lt_of_succ_lt_succ h);refine az (show i0+(i+1)=i0+1+i by omega) ?_;exact this
theorem OF{C:Cl}{n:Nat}{sv:Bool}(hG:iy C){x:D}{l:Int}{alts:List D}{other:D}{o u5 kk:Nat}{fr:Fr}{aB:List (Nat×Nat)}{av:Nat}{Sb:List Int}(p6:aB.length+1+n<=10)
  (Ox:∀(Mb:List Row) (gN:List Int),Mb.length+bK n<=89900->gN.length+bK n<=89900->Sb.length<=gN.length->Pre n sv Mb gN aB av) {Q:KF}:∀(as pre:List cR) (rest:ak) (rr:List Row) (mr:List Int) (γ:Nat),alts=(pre++as).map eJ->pre.length+as.length=kk->kk<=50->A5 rest->
  (∀a∈as,(∀body,u4 a=some body->L3 n C body)/\uG 0 C sv (p7 a))->rr.length+as.length*bK n+2*bK n<=89900->mr.length+as.length*bK n+2*bK n<=89900->u5+kk<=mr.length->Sb.length<=mr.length->
  (∀c MQ gG aG,A5 aG->V8 n as aB av u5 (o+1) pre.length rr mr c MQ->Q .next (DP x l alts other (eE u5 kk) o aG) (cS fr (c++rr) MQ aB 0 av gG []))->
  forL (ex G C 59) [aW] qP none (eE pre.length as.length) (DP x l alts other (eE u5 kk) o rest) (cS fr rr mr aB 0 av γ []) Q:=by
 intro l0
 induction l0 with
 |nil=>
  intro pre rest rr mr γ _ _ _ d9 _ _ _ _ _ k;exact k [] mr γ rest d9 ⟨Nat.zero_le _,Nat.le_add_right _ _,⟨Nat.le_refl _,fun _ _ _=>rfl⟩,fun _=>trivial,fun j a h=>by rcases h with _|_⟩
 |cons a as ih=>
  intro pre rest rr mr γ ha DJ SR d9 hC h1 h2 h3 hB k;rw[List.length_cons]at DJ;have e1:(a::as).length*bK n=as.length*bK n+bK n:=Nat.succ_mul _ _;rw[e1]at h1 h2;have hx:idx alts (Int.ofNat pre.length)=some (eJ a):=by
   have:=AQ (pre.map eJ) (eJ a) (as.map eJ);rw[List.length_map]at this;rw[ha,List.map_append,List.map_cons];exact this
  obtain⟨hA,hR⟩:=hC a List.mem_cons_self;show forL (ex G C 59) [aW] qP none (.int (Int.ofNat pre.length)::eE (pre.length+1) as.length) (DP x l alts other (eE u5 kk) o rest) (cS fr rr mr aB 0 av γ []) Q;rw[dn];refine OE hG d9 (aZ (iq DJ) SR) hx (xh kk u5 pre.length (ai (iq DJ))) hA hR (Ox rr mr (ai h1) (ai h2) hB) (ai h1) (ai h2) p6 (aZ (iq DJ) h3) fun c1 Jv V9 Wa hr1 hT=>?_;have t1:=hT.len;have t2:=hT.jZ;have t3:=hT.keep;have Sd:=t3.1;have e:pre.length+1=(pre++[a]).length:=by rw[List.length_append];rfl
  rw[e];refine ih (pre++[a]) Wa (c1++rr) Jv V9 (by rw[ha,List.append_assoc];rfl) (by rw[<-e];exact Nat.le_antisymm (ai (iq DJ)) (ai (xC DJ))) SR hr1 (fun y hy=>hC y (List.mem_cons_of_mem _ hy)) (by rw[List.length_append];exact aZ h1 t1) (aZ h2 t2) (aZ h3 Sd) (aZ hB Sd) fun c2 MQ pg gX uB xi=>?_;have u1:=xi.len;have u2:=xi.jZ;have u3:=xi.keep;have ZG:=u3.1;rw[<-e]at u3;rw[<-List.append_assoc];refine k (c2++c1) MQ pg gX uB ⟨by rw[e1,List.length_append];exact aZ t1 u1,by rw[e1];exact aZ t2 u2,⟨by exact aZ Sd ZG,fun m hm hor=>?_⟩,fun ho=>(xi.Xl (aZ Sd ho)).app ((hT.Xl ho).mono ZG),fun j y hj=>?_⟩
  ·rw[List.length_cons]at hor;rw[u3.2 m (aZ Sd hm) (by omega),t3.2 m hm (by omega)]
  ·induction j using Nat.casesAuxOn with
   |zero=>
    rcases hj with _|_;refine⟨rr.length,Nat.le_refl _,?_,fun X M hX hF hM pend uH Bl xf=>?_⟩
    ·rw[Nat.add_zero,u3.2 _ (jI (iq DJ) h3 Sd) (by exact .inl (by omega))];exact hT.at_
    ·obtain⟨f1,f2⟩:=cw hF;rw[List.length_append]at Bl;refine⟨by exact ai Bl,hT.good X M hX f1 (fun m q1 q2=>?_) pend uH (ai Bl) xf⟩;refine Jn (u3.2 m q2 (by exact .inr (jI (iq DJ) h3 q1))) ?_;exact hM m q1 (aZ ZG q2)
   |succ j=>
    obtain⟨p,p1,p2,p3⟩:=xi.good j y hj;rw[List.length_append]at p1;refine⟨p,by exact ai p1,?_,fun X M hX hF hM pend uH Bl xf=>?_⟩
    ·rw[<-e]at p2;refine az (show u5+pre.length+(j+1)=u5+(pre.length+1)+j by omega) ?_;exact p2
    ·obtain⟨f1,f2⟩:=cw hF;rw[List.length_append]at Bl;have el:(c1++rr).length=rr.length+c1.length:=by rw[List.length_append];omega
     exact p3 X M hX (by rw[el];exact f2) (pd hM Sd) pend uH (by rw[el];exact ai Bl) xf
theorem Je:∀(as:List cR) (i0 j:Nat) (x:D),aq (opens i0 as) j=some x->∃i a,aq as i=some a/\x=lH (i0+i) (nP a):=by
 intro l0
 induction l0 with
 |nil=>
  intro _ _ _ h;cases h
 |cons a as ih=>
  intro i0 j x h;unfold opens at h;split at h
  ·induction j using Nat.casesAuxOn with
   |zero=>rcases h with _|_;exact⟨0,a,rfl,rfl⟩
   |succ j=>
    refine bc fun bf=>?_;obtain⟨i,y,h1,h2⟩:=ih (i0+1) j x h;refine bf ?_;exact⟨i+1,y,h1,by rw[h2,show i0+1+i=i0+(i+1) by omega]⟩
  ·obtain⟨i,y,h1,h2⟩:=ih (i0+1) j x h;exact⟨i+1,y,h1,by rw[h2,show i0+1+i=i0+(i+1) by omega]⟩
theorem y7{α:Type}:∀(l:List α) (j:Nat),j<l.length->∃x,aq l j=some x
 |[],_,h=>absurd h (Nat.not_lt_zero _)
 |x::_,0,_=>⟨x,rfl⟩
 |_::l,j+1,h=>y7 l j (Nat.lt_of_succ_lt_succ h)
theorem xj{α β:Type}(f:α->β):∀(l:List α) (j:Nat) (x:α),aq l j=some x->aq (l.map f) j=some (f x)
 |[],_,_,h=>by cases h
 |_::_,0,_,h=>by cases h;rfl
 |_::l,j+1,x,h=>xj f l j x h
theorem xl:∀(k i0 i:Nat),i<k->aq (List.range' i0 k) i=some (i0+i)
 |0,_,_,h=>absurd h (Nat.not_lt_zero _)
 |k+1,i0,0,_=>rfl
 |k+1,i0,i+1,h=>by
  have:=xl k (i0+1) i (Nat.lt_of_succ_lt_succ h);refine az (show i0+(i+1)=i0+1+i by omega) ?_;exact this
noncomputable def oL:Option (List D)->List D
 |none=>[]
 |some s=>s
theorem OG{X:PX}{M:Nat->Int}(hX:nU X){n:Nat}{l:Int}{as:List cR}{o:Option (List D)}{kQ:Option (Nat×Nat)}{a u5 m2 ow Dv pO pend:Nat}(qQ:as≠[])(hlen:as.length<=3)(MN:∀x∈as,iN x)
  (fo:idx X.pf.R (Int.ofNat a)=some (bV M .gk)) (LZ:∀b,bP X Dv (.O [] (opens 0 as).reverse) b->bP X (a+1) (.O [] []) b)
  (fs:idx X.pf.R (Int.ofNat Dv)=some (bV M (.select o.isSome (List.range' u5 as.length) ow))) (Xn:a+1<=Dv) (hO:M ow=Int.ofNat pO) (h1:Dv<pO) (h2:pO<=pend) (h3:pend<=90000)
  (gO:∀s,o=some s->G2 X M (DL 0) pO pend kQ s)
  (gB:∀i x,aq as i=some x->∃p:Nat,Dv<p/\M (u5+i)=Int.ofNat p/\p<=pend/\GoodC X M (DL n) p pend kQ x):
  Ma X M (DL (n+1)-1) a pend kQ (cy (.sel l as o)):=by
 intro hE b hb;have Wb:=eX hX fo;have ZH:=eX hX fs;have DM:=(w8 as 0 (ai hlen) MN).2;have Kt:=w9 hlen MN;have mY:bP X Dv (.O [] (opens 0 as).reverse) (b.tell bF)->bP X a (.N []) (b.tell bF):=fun z=>
  aX hX fo (by decide) (Nat.lt_succ_self _) LD (.inl ⟨rfl,rfl⟩) (LZ _ z)
 have PN:(b.tell bF).told.length<=100000:=by show b.told.length+1<=_;exact aZ hb Wb
 have walk:∀w b',(∀d,10*n+17<=d->VS (Cd G P d) X.pf as o b w b')->fL X.pf (DL (n+1)-1) (cy (.sel l as o)) b w b':=fun w b' h=>by
  rw[V1];exact j0 fun d hd=>by
   induction d using Nat.casesAuxOn with
   |zero=>omega
   |succ d=>exact nO rfl (VT (jA (ai hd)) (mz (ai hd)) (AY (ai hd)) qQ hlen MN (aZ hb Wb) hX.gI (h d (ai hd)))
 have Mc:(opens 0 as).reverse.reverse=opens 0 as:=List.reverse_reverse _;have xI:(opens 0 as).reverse.length=(opens 0 as).length:=List.length_reverse;cases A6:isNil (opens 0 as)with
 |true=>
  have Xo:opens 0 as=[]:=by
   cases h:opens 0 as with
   |nil=>rfl
   |cons x y=>rw[h]at A6;rcases A6 with _|_
  induction o using Option.casesOn with
  |some s=>
   refine bc fun bf=>?_;obtain⟨w,b',w1,a1⟩:=gO s rfl hE (cj b as (some s)) (by show b.told.length+1+1<=_;exact jI Xn h1 hb);refine bf ?_;refine⟨w,b',walk w b' fun d hd=>.inl ⟨s,A6,rfl,w1.at_ (by unfold DL;exact ai hd)⟩,a1.pre fun z=>mY ?_⟩;refine az (Xo) ?_;have hd:=Dd (C:=Run X.C2) (pf:=X.pf) eZ (e:=true) (ms:=(List.range' u5 as.length).map fun m=>PyData.int (M m)) (m:=M ow) (b:=b.tell bF) PN;have ez:cj b as (some s)=(b.tell bF).tell (gv true []):=by unfold cj;rw[Xo];rfl
   rw[ez]at z;exact aX hX fs (by decide) h1 hd (.inr (by rw[hO];rfl)) z
  |none=>
   refine⟨.gn,cj b as none,walk _ _ fun d hd=>.inr (.inl ⟨A6,rfl,rfl,rfl⟩),by show b.told.length+1+1<=_;exact aZ hb Wb,fun z=>mY ?_⟩;refine az (Xo) ?_;have hd:=Dd (C:=Run X.C2) (pf:=X.pf) eZ (e:=false) (ms:=(List.range' u5 as.length).map fun m=>PyData.int (M m)) (m:=M ow) (b:=b.tell bF) PN;have ez:cj b as none=(b.tell bF).tell (gv false []):=by unfold cj;rw[Xo];rfl
   rw[ez]at z;exact Oa hX fs (by decide) hd z
 |false=>
  have RE:=tD A6;have S5:isNil (opens 0 as).reverse.reverse=false:=by rw[Mc];exact A6
  have ZI:aA (.list (opens 0 as).reverse.reverse):=by rw[Mc];exact Kt
  have pick:∀v:Int,0<=v->v<Int.ofNat (opens 0 as).length->∃j i x p,v=Int.ofNat j/\j<=90/\i<=90/\idx (opens 0 as) (Int.ofNat j)=some (lH i (nP x))/\idx (as.map eJ) (Int.ofNat i)=some (eJ x)/\
    idx ((List.range' u5 as.length).map fun m=>PyData.int (M m)) (Int.ofNat i)=some (.int (Int.ofNat p))/\Dv<p/\p<=pend/\GoodC X M (DL n) p pend kQ x:=by
   intro v h0 hv;refine bc fun bf=>?_;obtain⟨j,rfl⟩:=Int.eq_ofNat_of_zero_le h0;have hj:j<(opens 0 as).length:=Int.ofNat_lt.mp hv;obtain⟨y,hy⟩:=y7 _ _ hj;obtain⟨i,x,h1,h2⟩:=Je as 0 j y hy;have hi:=k9 h1;obtain⟨p,p1,p2,p3,p4⟩:=gB i x h1;rw[Nat.zero_add]at h2;subst h2;refine bf ?_;refine⟨j,i,x,p,rfl,by exact jI hlen DM hj (jI hlen DM hj (jI hlen DM hj)),by exact aZ hlen hi (aZ hlen hi (aZ hlen hi)),hy,xj eJ _ _ _ h1,?_,p1,p3,p4⟩;have:=xj (fun m=>PyData.int (M m)) _ _ _ (xl as.length u5 i hi);rw[p2]at this;exact this
  induction o using Option.casesOn with
  |some s=>
   by_cases hz:iC X.pf.gI (cj b as (some s)).ask.asked (Int.ofNat 3)=Int.ofNat 0
   ·obtain⟨w,b',w1,a1⟩:=gO s rfl hE (cj b as (some s)).ask (by show b.told.length+1+1<=_;exact jI Xn h1 hb);refine⟨w,b',walk w b' fun d hd=>.inr (.inr (.inl ⟨s,A6,rfl,hz,w1.at_ (by unfold DL;exact ai hd)⟩)),a1.pre fun z=>mY ?_⟩;have hd:=LF (C:=Run X.C2) (pf:=X.pf) eZ r8 (ms:=(List.range' u5 as.length).map fun m=>PyData.int (M m)) (m:=M ow) (b:=b.tell bF) (ol:=(opens 0 as).reverse) PN hX.gI S5 ZI hz;rw[Mc]at hd;exact aX hX fs (by decide) h1 hd (.inr (by rw[hO])) z
   ·obtain⟨v0,v1⟩:=GS (gI:=X.pf.gI) (a:=(cj b as (some s)).ask.ask.asked) (many:=Int.ofNat (opens 0 as).length) (by show(0:Int)<((opens 0 as).length:Int);omega);refine bc fun bf=>?_;obtain⟨j,i,x,p,ej,hj,hi,Wc,ZJ,ZK,Jx,ZL,hg⟩:=pick _ v0 v1;obtain⟨w,b',w1,a1⟩:=hg hE (cj b as (some s)).ask.ask (by show b.told.length+1+1<=_;exact jI Xn hb Jx);refine bf ?_;refine⟨w,b',walk w b' fun d hd=>.inr (.inr (.inr (.inl ⟨s,i,j,x,_,A6,rfl,hz,ej,hj,hi,Wc,ZJ,w1 d (by unfold DL;exact ai hd)⟩))),a1.pre fun z=>mY ?_⟩;have hd:=LG (C:=Run X.C2) (pf:=X.pf) eZ r8 (ms:=(List.range' u5 as.length).map fun m=>PyData.int (M m)) (m:=M ow) (b:=b.tell bF) (ol:=(opens 0 as).reverse) PN hX.gI S5 ZI hz (by rw[xI];exact aZ hlen DM) (by rw[xI];exact ej) (by rw[Mc];exact Wc) ZK hi hj;rw[Mc]at hd;exact aX hX fs (by decide) Jx hd (.inr rfl) z
  |none=>
   refine bc fun bf=>?_;obtain⟨v0,v1⟩:=GS (gI:=X.pf.gI) (a:=(cj b as none).ask.asked) (many:=Int.ofNat (opens 0 as).length) (by show(0:Int)<((opens 0 as).length:Int);omega);obtain⟨j,i,x,p,ej,hj,hi,Wc,ZJ,ZK,Jx,ZL,hg⟩:=pick _ v0 v1;obtain⟨w,b',w1,a1⟩:=hg hE (cj b as none).ask (by show b.told.length+1+1<=_;exact jI Xn hb Jx);refine bf ?_;refine⟨w,b',walk w b' fun d hd=>.inr (.inr (.inr (.inr ⟨i,j,x,_,A6,rfl,ej,hj,hi,Wc,ZJ,w1 d (by unfold DL;exact ai hd)⟩))),a1.pre fun z=>mY ?_⟩;have hd:=LH (C:=Run X.C2) (pf:=X.pf) eZ r8 (ms:=(List.range' u5 as.length).map fun m=>PyData.int (M m)) (m:=M ow) (b:=b.tell bF) (ol:=(opens 0 as).reverse) PN hX.gI S5 ZI (by rw[xI];exact aZ hlen DM) (by rw[xI];exact ej) (by rw[Mc];exact Wc) ZK hi hj;rw[Mc]at hd;exact aX hX fs (by decide) Jx hd (.inr rfl) z
section
variable{C:Cl}{n:Nat}{sv:Bool}
noncomputable def We:List T:=(P.code dM).take 3
noncomputable def Wf:List T:=[.expr (.call cB [(.var af),(.tup [(.c (.str qs))])])]
noncomputable def Wg:List T:=[.expr (.call cB [(.var af),(.tup [(.c (.str bB)),(.cmp .nW (.var dq) (.c .none)),(.var dp),(.var dC)])]),.asg (.x aN) (.attr (.var af) aN)]
noncomputable def Wh:List T:=(P.code dM).drop 8
theorem Md:P.code dM=We++(Wf++([.gQ [aW] (.su (.len (.var aC))) sr]++(Wg++([.gQ [aW] (.su (.len (.var aC))) qP]++Wh)))):=rfl
theorem Se(hG:iy C)(Wi:OC C){l:Int}{as:List cR}{o:Option (List D)}(qQ:as≠[])(hlen:as.length<=3)(MN:∀a∈as,iN a)(hB:∀a∈as,(∀body,u4 a=some body->L3 n C body)/\uG 0 C sv (p7 a))(hO:uG 0 C sv (oL o)):Ov (n+1) (Run C) sv dM (.sel l as o):=by
 intro fr rr mr aB av γ Q hp k;have pN:=i9 n;have hr:rr.length+12*BS n<=89601:=by have:=Zu hp.rl;rw[dH]at this;exact ai this
 have hm:mr.length+12*BS n<=89600:=by have:=hp.ml;rw[dH]at this;exact ai this
 have R6:rr.length<=89409:=by exact aZ (qk 12 pN) hr
 have Xk:mr.length<=89408:=by exact aZ (qk 12 pN) hm
 have hb1:av+n<=4:=by have:=hp.bl;exact ai this
 have Hm:aB.length+n<=9:=by have:=hp.al;exact ai this
 have Wj:bK n=2*BS n+42:=rfl;have FW:as.length*bK n<=6*BS n+126:=by have:=Nat.mul_le_mul_right (bK n) hlen;rw[Wj]at this⊢;exact ai this
 show gC (ex G C 60) (P.code dM) [(af,.b 4),(aD,.d (cy (.sel l as o)))] (cS fr rr mr aB 0 av γ []) (fS Q);refine az (Md) ?_;refine bq fun R hR=>?_;have start:R (DP (cy (.sel l as o)) l (as.map eJ) (rT o) (eE mr.length as.length) (mr.length+as.length) []) (cS fr rr (-1:: -1::(List.replicate as.length (-1)++mr)) aB 0 av γ []):=by
  refine hR _ _ ?_;clear hR R;refine bq fun R hR=>?_;refine hG.lay .gk fr rr (-1:: -1::(List.replicate as.length (-1)++mr)) aB 0 av γ _ (by omega) fun h1 e1=>?_;have e1:h1=1:=by rw[e1];rfl
  subst e1;refine hR (DP (cy (.sel l as o)) l (as.map eJ) (rT o) (eE mr.length as.length) (mr.length+as.length) []) (cS fr (.gk::rr) (-1:: -1::(List.replicate as.length (-1)++mr)) aB 1 av γ []) ?_;clear hR R;have PO:(-1:: -1::(List.replicate as.length (-1:Int)++mr)).length=mr.length+as.length+2:=by
   simp only[List.length_cons,List.length_append,List.length_replicate];omega
  generalize ZM:(-1:: -1::(List.replicate as.length (-1:Int)++mr))=iW at PO⊢;refine bq fun R hR=>?_;refine ju fun F hF=>?_;refine aj (by rw[List.length_map];unfold ah;omega) ?_;refine aj (by rw[List.length_map];unfold ah;omega) ?_;refine hF _ _ _ ?_;rw[mX,List.length_map];have Wk:=A4 as 0 iW.length;have ZN:=FX as 0 (Row.gk::rr).length iW;have Wk:(eu 0 iW.length as).length<=12:=by exact aZ (qk 4 hlen) Wk
  refine Jd (x:=cy (.sel l as o)) (l:=l) (other:=rT o) (ms:=eE mr.length as.length) (o:=mr.length+as.length) Wi as [] [] (.gk::rr) iW rfl (.inl rfl) (by rw[List.length_nil];exact ai hlen) (by rw[List.length_cons];exact aZ (qk 4 hlen) R6) (jI (qk 2 hlen) Xk (iq PO)) fun aG je=>?_;obtain⟨v,rfl⟩:∃v,aG=[(aW,.d v)]:=by
   rcases je with⟨h,_⟩|h
   ·exact absurd h qQ
   ·exact h
  clear je;refine hR _ _ ?_;clear hF F hR R;refine az (List.length_nil) ?_;have hM3:=ug as 0 (Row.gk::rr).length iW;generalize ZO:nQ 0 (Row.gk::rr).length iW as=Jw at ZN hM3⊢;generalize Sf:eu 0 iW.length as=qR at Wk⊢;refine bq fun R hR=>?_;have OH:Jw.length=mr.length+as.length+2+as.length:=by rw[ZN,PO]
  have h3b:Jw.length+12*BS n<=89608:=by exact jI (qk 2 hlen) hm (iq OH)
  have HZ:rr.length+1+qR.length+12*BS n<=89614:=by exact aZ hr Wk
  clear ZN hr hm;have ZP:bV M0 (.select o.isSome (List.range' mr.length as.length) (mr.length+as.length))=.tuple [.str bB,.bool o.isSome,.list (eE mr.length as.length),.int (Int.ofNat (mr.length+as.length))]:=by
   show PyData.tuple [.str bB,.bool o.isSome,.list ((List.range' mr.length as.length).map fun m=>PyData.int (M0 m)),.int (M0 (mr.length+as.length))]=_;rw[<-tC];rfl
  have lay:=hG.lay (.select o.isSome (List.range' mr.length as.length) (mr.length+as.length)) fr (qR++Row.gk::rr) Jw aB 1 av γ;rw[ZP]at lay;have Me:(qR++Row.gk::rr).length=rr.length+1+qR.length:=by rw[List.length_append,List.length_cons];omega
  have next:R (DP (cy (.sel l as o)) l (as.map eJ) (rT o) (eE mr.length as.length) (mr.length+as.length) [(aW,.d v),(aN,.d (.int 0))]) (cS fr (.select o.isSome (List.range' mr.length as.length) (mr.length+as.length)::(qR++Row.gk::rr)) Jw aB 0 av γ []):=by
   refine hR _ _ ?_;clear hR R;refine bq fun R hR=>?_;refine ju fun F hF=>?_;refine aj (by rw[List.length_map];unfold ah;omega) ?_;refine aj (by rw[List.length_map];unfold ah;omega) ?_;refine hF _ _ _ ?_;rw[mX,List.length_map];refine OF (x:=cy (.sel l as o)) (l:=l) (other:=rT o) (o:=mr.length+as.length) (u5:=mr.length) (kk:=as.length) (Sb:=mr) hG (ai Hm) (fun Mb gN q1 q2 q3=>⟨by exact aZ (xC Wj) q1,by exact aZ (xC Wj) q2,hp.sv,by omega,fun p rI=>⟨(hp.ac p rI).1,Nat.lt_of_lt_of_le (hp.ac p rI).2 q3⟩,by omega⟩) as [] [(aW,.d v),(aN,.d (.int 0))] (.select o.isSome (List.range' mr.length as.length) (mr.length+as.length)::(qR++Row.gk::rr)) Jw γ rfl (by rw[List.length_nil];omega) (by omega) (.inl ⟨v,rfl⟩) hB (by rw[List.length_cons,Me];exact jI (qk 2 (iq Wj)) FW HZ) (jI (qk 2 (iq Wj)) FW h3b) (ai (xC OH)) (ai (xC OH)) fun c uI MP aa2 hr4 xi=>?_;refine hR _ _ ?_;clear hF F hR R;have b1:c.length<=6*BS n+126:=Nat.le_trans xi.len FW;have b2:uI.length<=Jw.length+(6*BS n+126):=Nat.le_trans xi.jZ (Nat.add_le_add_left FW _);have b3:=xi.keep;have ZQ:=b3.1;have b4:mr.length+as.length+2<=uI.length:=by exact aZ (xC OH) ZQ
   have b5:uI.length+6*BS n<=89740:=by exact aZ h3b b2
   have b6:uI.length<=89644:=by exact aZ (qk 6 pN) b5
   rw[List.length_nil,Nat.add_zero]at b3;have tf:(c++Row.select o.isSome (List.range' mr.length as.length) (mr.length+as.length)::(qR++Row.gk::rr)).length=rr.length+1+qR.length+1+c.length:=by
    rw[List.length_append,List.length_cons,Me];omega
   have b7:rr.length+1+qR.length+1+c.length<=89650:=by exact jI (qk 6 pN) HZ b1
   have b8:uI.length<=mr.length+(6*BS n+134):=by exact jI (qk 2 hlen) (iq OH) b2
   clear b2 b5;generalize hr5:c++Row.select o.isSome (List.range' mr.length as.length) (mr.length+as.length)::(qR++Row.gk::rr)=Bm at tf⊢;have tail:∀K:KV,(∀eL y8 Mf ZR,qM 0 (2*BS 0) (oL o) aB av Bm (eU uI (mr.length+as.length) Bm.length) eL y8->K (.d .none) (cS fr (eL++Bm) y8 aB 0 av Mf ZR))->C bW [.b 4,.d (.list (oL o))] (cS fr Bm (eU uI (mr.length+as.length) Bm.length) aB 0 av MP []) K:=fun K hK=>
    hO fr Bm (eU uI (mr.length+as.length) Bm.length) aB av MP K ⟨by rw[tf];show _+74<=_;exact ai b7,by rw[aE];show _+74<=_;exact ai b6,hp.sv,by exact ai hb1,fun p rI=>⟨(hp.ac p rI).1,by rw[aE];have:=(hp.ac p rI).2;exact aZ b4 this⟩,by exact ai Hm⟩ hK
   have fin:∀eL y8 Mf,qM 0 (2*BS 0) (oL o) aB av Bm (eU uI (mr.length+as.length) Bm.length) eL y8->Q (.d .none) (cS fr (eL++Bm) (eU y8 (mr.length+as.length+1) (eL++Bm).length) aB 0 av Mf []):=by
    intro eL y8 Mf hP;have p1:eL.length<=32:=hP.len;have p2:=hP.jZ;have p3:=hP.keep;have OI:=p3.1;rw[aE]at p2 OI;have p2:y8.length<=uI.length+32:=p2;have p4:mr.length+as.length+2<=y8.length:=Nat.le_trans b4 OI;have en:eL++Bm=(eL++(c++([Row.select o.isSome (List.range' mr.length as.length) (mr.length+as.length)]++(qR++[Row.gk]))))++rr:=by
     rw[<-hr5];simp
    have el:(eL++Bm).length=rr.length+1+qR.length+1+c.length+eL.length:=by rw[List.length_append,tf];omega
    have eln:rr.length+(eL++(c++([Row.select o.isSome (List.range' mr.length as.length) (mr.length+as.length)]++(qR++[Row.gk])))).length=rr.length+1+qR.length+1+c.length+eL.length:=by
     simp only[List.length_append,List.length_cons,List.length_nil];omega
    have kk:=k (eL++(c++([Row.select o.isSome (List.range' mr.length as.length) (mr.length+as.length)]++(qR++[Row.gk])))) (eU y8 (mr.length+as.length+1) (eL++Bm).length) Mf [] ⟨by rw[dH];simp only[List.length_append,List.length_cons,List.length_nil];exact uK Wk b1 p1 (DR (6*BS n+200) (2)),by rw[aE,dH];exact jI b8 p2 (DR (6*BS n+200) (2)),?_,by
     rw[aE];refine(hP.FL).app (((xi.Xl (ai (xC OH))).mono (by omega)).app (jz.app (a:=[Row.select o.isSome (List.range' mr.length as.length) (mr.length+as.length)]) ⟨⟨⟨fun q hq=>?_,by rw[List.length_range'];omega⟩,by exact ai p4⟩,trivial⟩ (jz.app (b:=[Row.gk]) ?_ ⟨trivial,trivial⟩)))
     ·have:=List.mem_range'_1.mp hq;exact aZ p4 this.2
     ·refine Jn (Sf) ?_;exact OB as 0 iW.length (uK (iq PO) (xC OH) ZQ OI),fun X M hX hF hM=>?_⟩
    ·rw[<-en]at kk;exact kk
    ·refine iV.set ⟨by exact ai p4,fun j hj=>?_⟩ _ (by omega) (ai p4);refine az (p3.2 j (by rw[aE];exact aZ b4 hj)) ?_;refine az (dJ _ (ai b4) (aZ b4 hj)) ?_;refine az (if_neg (by exact Nat.ne_of_gt (ai hj))) ?_;refine az (b3.2 j (aZ (xC OH) hj) (by exact .inl (ai hj))) ?_;refine az (hM3.2 j (aZ (xC PO) hj)) ?_;refine Jn (ZM) ?_;refine az (jw _ (by simp only[List.length_cons,List.length_append,List.length_replicate];exact ai hj)) ?_;refine az (jw _ (by simp only[List.length_append,List.length_replicate];exact ai hj)) ?_;have rep:∀(q:Nat),gd (List.replicate q (-1:Int)++mr) j=gd mr j:=by
      intro q
      induction q with
      |zero=>rfl
      |succ q ih=>
       refine az (List.replicate_succ) ?_;refine az (List.cons_append) ?_;refine az (jw _ (by rw[List.length_append];exact ai hj)) ?_;exact ih
     exact rep _
    ·refine az (eln) ?_;obtain⟨fA,fB⟩:=cw hF;obtain⟨fC,fD⟩:=cw fA;obtain⟨fE,fG⟩:=cw fC;obtain⟨fH,fI⟩:=cw fE;have w1:rr.length+(qR++[Row.gk]).length=rr.length+1+qR.length:=by simp only[List.length_append,List.length_cons,List.length_nil];omega
     have w2:rr.length+([Row.select o.isSome (List.range' mr.length as.length) (mr.length+as.length)]++(qR++[Row.gk])).length=rr.length+1+qR.length+1:=by simp only[List.length_append,List.length_cons,List.length_nil];omega
     have w3:rr.length+(c++([Row.select o.isSome (List.range' mr.length as.length) (mr.length+as.length)]++(qR++[Row.gk]))).length=rr.length+1+qR.length+1+c.length:=by simp only[List.length_append,List.length_cons,List.length_nil];omega
     rw[w1]at fG;rw[w2]at fD;rw[w3]at fB;have ZH:=eX hX fG.2;have ZH:rr.length+1+qR.length<90000:=ZH;have mo:M (mr.length+as.length)=Int.ofNat (rr.length+1+qR.length+1+c.length):=by
      have h:=hM (mr.length+as.length) (by omega) (by rw[aE];exact ai p4);rw[dJ _ (ai p4) (ai p4),if_neg (by exact Nat.ne_of_gt (by omega)),p3.2 _ (by rw[aE];exact ai b4),dJ _ (ai b4) (by omega),if_pos rfl,tf]at h;exact h.symm
     have ZS:M (mr.length+as.length+1)=Int.ofNat (rr.length+1+qR.length+1+c.length+eL.length):=by
      have:=L4 hM (by omega) (ai p4);rw[this,el];rfl
     have hM6:lP M (mr.length+as.length+2) y8:=qO (pd hM (by omega)) (by omega) (by omega);have V3:lP M (mr.length+as.length+2) uI:=qO (uZ p3 hM6) (by omega) (by omega);have ZT:lP M (mr.length+as.length+2) Jw:=fun m q1 q2=>by
      refine Jn (b3.2 m q2 (by exact .inr (ai q1))) ?_;exact V3 m q1 (aZ ZQ q2)
     have FA:(Row.gk::rr).length=rr.length+1:=rfl;have ZU:(Row.select o.isSome (List.range' mr.length as.length) (mr.length+as.length)::(qR++Row.gk::rr)).length=rr.length+1+qR.length+1:=by rw[List.length_cons,Me]
     have PV:rr.length+1+qR.length+1+c.length+eL.length<=90000:=by exact aZ b7 p1
     refine OG (n:=n) (a:=rr.length) (Dv:=rr.length+1+qR.length) (pO:=rr.length+1+qR.length+1+c.length) (pend:=rr.length+1+qR.length+1+c.length+eL.length) (ow:=mr.length+as.length) (u5:=mr.length) (m2:=0) hX qQ hlen MN fH.2 (fun b z=>?_) fG.2 (by omega) mo (by omega) (by omega) PV (fun s hs=>?_) (fun i x hx=>?_)
     ·have ZV:gJ X.pf.R M (rr.length+1) (eu 0 iW.length as):=by rw[Sf];exact fI
      have:=R8 (b:=b) hX as 0 (rr.length+1) iW [] MN (ai hlen) (by rw[List.length_nil];exact ai hlen) ZV (by rw[PO,<-FA,ZO];exact ZT);rw[Sf,List.append_nil]at this;exact this z
     ·subst hs;have g:=hP.good X M hX (by rw[tf];exact fB) (pd hM6 (by rw[aE];omega));rw[tf]at g;exact g
     ·obtain⟨p,q1,q2,q3⟩:=xi.good i x hx;have MM:=k9 hx;rw[ZU]at q1 q3;rw[List.length_nil,Nat.add_zero]at q2;obtain⟨q4,q5⟩:=q3 X M hX fD (pd V3 (ai (xC OH))) _ ZS (by omega) PV;refine⟨p,by exact ai q1,?_,q4,q5⟩;have h:=hM (mr.length+i) (by omega) (by rw[aE];exact aZ p4 MM);rw[dJ _ (by omega) (aZ p4 MM),if_neg (by exact Nat.ne_of_gt (ai MM)),p3.2 _ (by rw[aE];exact aZ b4 MM),dJ _ (by omega) (aZ b4 MM),if_neg (by exact Nat.ne_of_gt (ai MM)),q2]at h;exact h.symm
   induction o using Option.casesOn with
   |none=>
    rcases hr4 with⟨v4,rfl⟩|⟨a0,g0,k0,d0,s0,rfl⟩
    all_goals
     refine hG.put fr Bm uI aB 0 av MP (mr.length+as.length) 0 _ (aZ b7 (iq tf)) (ai b6) (by omega) ?_;refine tail _ fun eL y8 Mf ZR hP=>?_;have p1:eL.length<=32:=hP.len;have p2:=hP.jZ;have OI:=hP.keep.1;rw[aE]at p2 OI;have p2:y8.length<=uI.length+32:=p2;have p4:mr.length+as.length+2<=y8.length:=Nat.le_trans b4 OI;refine hG.put fr (eL++Bm) y8 aB 0 av Mf (mr.length+as.length+1) 0 _ (by rw[List.length_append];exact jI b7 (iq tf) p1) (aZ b6 p2) (by omega) ?_;exact fin eL y8 Mf hP
   |some s=>
    rcases hr4 with⟨v4,rfl⟩|⟨a0,g0,k0,d0,s0,rfl⟩
    all_goals
     refine hG.put fr Bm uI aB 0 av MP (mr.length+as.length) 0 _ (aZ b7 (iq tf)) (ai b6) (by omega) ?_;refine tail _ fun eL y8 Mf ZR hP=>?_;have p1:eL.length<=32:=hP.len;have p2:=hP.jZ;have OI:=hP.keep.1;rw[aE]at p2 OI;have p2:y8.length<=uI.length+32:=p2;have p4:mr.length+as.length+2<=y8.length:=Nat.le_trans b4 OI;refine hG.put fr (eL++Bm) y8 aB 0 av Mf (mr.length+as.length+1) 0 _ (by rw[List.length_append];exact jI b7 (iq tf) p1) (aZ b6 p2) (by omega) ?_;exact fin eL y8 Mf hP
  induction o using Option.casesOn with
  |none=>
   refine lay _ (aZ HZ (iq Me)) fun h1 e1=>?_;have e1:h1=0:=by rw[e1];rfl
   subst e1;exact next
  |some s=>
   refine lay _ (aZ HZ (iq Me)) fun h1 e1=>?_;have e1:h1=0:=by rw[e1];rfl
   subst e1;exact next
 clear Wi MN hB hO FW k;rcases as with _|⟨a,_|⟨b,_|⟨c,_|⟨d,as⟩⟩⟩⟩
 ·exact absurd rfl qQ
 ·refine hG.new fr rr mr aB 0 av γ _ (by omega) ?_;refine hG.new fr rr (-1::mr) aB 0 av γ _ (by rw[List.length_cons];exact ai hm) ?_;refine hG.new fr rr (-1:: -1::mr) aB 0 av γ _ (by simp only[List.length_cons];exact ai hm) ?_;exact start
 ·refine hG.new fr rr mr aB 0 av γ _ (by omega) ?_;refine hG.new fr rr (-1::mr) aB 0 av γ _ (by rw[List.length_cons];exact ai hm) ?_;refine hG.new fr rr (-1:: -1::mr) aB 0 av γ _ (by simp only[List.length_cons];exact ai hm) ?_;refine hG.new fr rr (-1:: -1:: -1::mr) aB 0 av γ _ (by simp only[List.length_cons];exact ai hm) ?_;exact start
 ·refine hG.new fr rr mr aB 0 av γ _ (by omega) ?_;refine hG.new fr rr (-1::mr) aB 0 av γ _ (by rw[List.length_cons];exact ai hm) ?_;refine hG.new fr rr (-1:: -1::mr) aB 0 av γ _ (by simp only[List.length_cons];exact ai hm) ?_;refine hG.new fr rr (-1:: -1:: -1::mr) aB 0 av γ _ (by simp only[List.length_cons];exact ai hm) ?_;refine hG.new fr rr (-1:: -1:: -1:: -1::mr) aB 0 av γ _ (by simp only[List.length_cons];exact ai hm) ?_;exact start
 ·exact absurd hlen (by simp)
end
noncomputable def iz:SF->Int
 |.call l _=>l
 |.acc l _ _ _ _=>l
 |.rU l _ _ _=>l
 |.pY l _ _ _ _ _ _=>l
 |.sel l _ _=>l
 |.block l _=>l
 |.dt l _ _=>l
 |.abort l _=>l
 |.cK l _ _ _=>l
 |.ret l=>l
 |.null l=>l
theorem OJ(f:SF):∃ws ys,cy f=.tuple (.str ws::.int (iz f)::ys):=by rcases f with _|_<;>exact⟨_,_,rfl⟩
noncomputable def Sg(X:PX)(M:Nat->Int)(D0 a a':Nat)(kQ:Option (Nat×Nat))(f:SF):Prop:=lL M kQ a'->∀b,b.told.length<=a->∃w b',fL X.pf D0 (cy f) (b.tell (stepT (iz f))) w b'/\After X M a a' kQ b w b'
noncomputable def Hb(n N:Nat)(f:SF):=Piece (fun X M a a' kQ=>Sg X M (DL n-1) a a' kQ f) N
noncomputable def ZW(n:Nat)(C:Cl)(sv:Bool)(f:SF):Prop:=∀(fr:Fr) (rr:List Row) (mr:List Int) (aB:List (Nat×Nat)) (av γ:Nat) (Q:KV),Pre n sv (.step 0::rr) mr aB av->
 (∀new gN gG τ,Hb n (BS n) f aB av rr mr new gN->Q (.d .none) (cS fr (new++rr) gN aB 0 av gG τ))->C jR [.b 4,.d (cy f)] (cS fr rr mr aB 0 av γ []) Q
theorem Wl{C:Cl}{n:Nat}{sv:Bool}{f:SF}(hG:iy C)(Wm:Ln (iz f))(hX:uF n C sv f):ZW n (Run C) sv f:=by
 intro fr rr mr aB av γ Q hp k;have pN:=i9 n;have hr:=hp.rl;rw[List.length_cons]at hr;have go:∀K:KV,(∀new gN gG τ,AW n (BS n-1) f aB av (.step (iz f)::rr) mr new gN->K (.d .none) (cS fr (new++.step (iz f)::rr) gN aB 0 av gG τ))->C (fnOf f) [.b 4,.d (cy f)] (cS fr (.step (iz f)::rr) mr aB 0 av γ []) K:=
  fun K hK=>hX fr (.step (iz f)::rr) mr aB av γ K ⟨by rw[List.length_cons];omega,hp.ml,hp.sv,hp.bl,hp.ac,hp.al⟩ hK
 have fin:∀new gN gG τ,AW n (BS n-1) f aB av (.step (iz f)::rr) mr new gN->Q (.d .none) (cS fr (new++.step (iz f)::rr) gN aB 0 av gG τ):=by
  intro new gN gG τ hP;have p1:=hP.len;have p2:=hP.jZ;have kk:=k (new++[.step (iz f)]) gN gG τ ⟨by rw[List.length_append,List.length_singleton];omega,by exact aZ p2 (Nat.sub_le (BS n) (1)),hP.keep,hP.FL.app (b:=[.step (iz f)]) ⟨trivial,trivial⟩,fun X M hX' hF hM hE b hb=>?_⟩
  ·rw[List.append_assoc]at kk;exact kk
  ·obtain⟨f1,f2⟩:=cw hF;have e1:rr.length+(new++[Row.step (iz f)]).length=(Row.step (iz f)::rr).length+new.length:=by simp only[List.length_append,List.length_cons,List.length_nil];omega
   rw[e1]at hE⊢;obtain⟨w,b',w1,a1⟩:=hP.good X M hX' f2 hM hE (b.tell (stepT (iz f))) (by show b.told.length+1<=rr.length+1;exact ai hb);exact⟨w,b',w1,a1.pre fun z=>RJ hX' Wm f1.2 hb z⟩
 have lay:=hG.lay (.step (iz f)) fr rr mr aB 0 av γ;rcases f with _|_
 all_goals
  refine lay _ (ai hr) fun h1 e1=>?_;have e1:h1=0:=by rw[e1];rfl
  subst e1;refine go _ fun new gN gG τ hP=>?_;exact fin new gN gG [] hP
noncomputable def Sh(pf:PF)(D0:Nat)(ss:List D)(b:Bk)(w:Way)(b':Bk):Prop:=∀d,D0<=d->Chain (Cd G P d) pf ss b w b'
noncomputable def Si(X:PX)(M:Nat->Int)(D0 a a':Nat)(kQ:Option (Nat×Nat))(ss:List D):Prop:=lL M kQ a'->∀b,b.told.length<=a->∃w b',Sh X.pf D0 ss b w b'/\After X M a a' kQ b w b'
noncomputable def OK(n N:Nat)(ss:List D):=Piece (fun X M a a' kQ=>Si X M (DL n-1) a a' kQ ss) N
noncomputable def A7:List T:=[.expr (.call jR [(.var af),(.var aD)])]
noncomputable def xm(x:D)(rest:ak):ak:=(af,.b 4)::(bo,.d x)::rest
theorem OL{C:Cl}{n:Nat}{sv:Bool}{x:D}{fr:Fr}{aB:List (Nat×Nat)}{av:Nat}{rrB Sb:Nat}{Q:KF}(hsv:sv=true->aB≠[])(CT:av+n<=5)(Xj:∀p∈aB,p.2<=av/\p.1<Sb)(p6:aB.length+n<=10):∀(fs:List SF) (rest:ak) (rr:List Row) (mr:List Int) (γ:Nat),(rest=[]\/∃v,rest=[(aD,.d v)])->
  (∀f∈fs,Ln (iz f)/\ZW n C sv f)->rr.length+fs.length*BS n+2*BS n+1<=90000->mr.length+fs.length*BS n+2*BS n<=90000->Sb<=mr.length->
  (∀new gN gG aG,(aG=[]\/∃v,aG=[(aD,.d v)])->OK n (fs.length*BS n) (fs.map cy) aB av rr mr new gN->Q .next (xm x aG) (cS fr (new++rr) gN aB 0 av gG []))->
  forL (ex G C 59) [aD] A7 none (fs.map cy) (xm x rest) (cS fr rr mr aB 0 av γ []) Q:=by
 intro l0
 induction l0 with
 |nil=>
  intro rest rr mr γ hr _ h1 h2 h3 k;exact k [] mr γ rest hr ⟨Nat.zero_le _,Nat.le_add_right _ _,iV.refl _,trivial,fun X M hX hF hM hE b hb=>⟨.done,b,fun d hd=>⟨rfl,rfl⟩,hb,fun z=>z⟩⟩
 |cons f fs ih=>
  intro rest rr mr γ hr hC h1 h2 h3 k;have e1:(f::fs).length*BS n=fs.length*BS n+BS n:=Nat.succ_mul _ _;rw[e1]at h1 h2;have FY:=hC f List.mem_cons_self;have Wm:=FY.1;have kL:=FY.2;clear FY;have pN:=i9 n;refine az (List.map_cons) ?_;refine az (dn) ?_;have go:∀R:ak->St->Prop,(∀new gN gG,Hb n (BS n) f aB av rr mr new gN->R (xm x [(aD,.d (cy f))]) (cS fr (new++rr) gN aB 0 av gG []))->bind1 [aD] (cy f) (xm x rest) fun ed=>gC (ex G C 59) A7 ed (cS fr rr mr aB 0 av γ []) (wB R Q):=by
   intro R hR;have hp:Pre n sv (.step 0::rr) mr aB av:=⟨by rw[List.length_cons];exact ai h1,by exact ai h2,hsv,CT,fun p hp=>⟨(Xj p hp).1,by have:=(Xj p hp).2;exact aZ h3 this⟩,p6⟩;have call:=fun K hK=>kL fr rr mr aB av γ K hp hK;generalize cy f=y at call hR⊢;rcases hr with rfl|⟨v,rfl⟩
   all_goals
    refine call _ fun new gN gG τ hP=>?_;exact hR new gN gG hP
  refine go _ fun c1 Jv V9 hP=>?_;have p1:=hP.len;have p2:=hP.jZ;have p3:=hP.keep;refine ih [(aD,.d (cy f))] (c1++rr) Jv V9 (.inr ⟨_,rfl⟩) (fun y hy=>hC y (List.mem_cons_of_mem _ hy)) (by rw[List.length_append];exact aZ h1 p1) (aZ h2 p2) (by have:=p3.1;exact aZ h3 this) fun c2 iW pg gX uB Wn=>?_;have q1:=Wn.len;have q2:=Wn.jZ;have q3:=Wn.keep;rw[<-List.append_assoc];refine k (c2++c1) iW pg gX uB ⟨by rw[e1,List.length_append];exact aZ p1 q1,by rw[e1];exact aZ p2 q2,p3.trans q3,Wn.FL.app (hP.FL.mono q3.1),fun X M hX hF hM hE b hb=>?_⟩;have Sj:=cw hF;have f1:=Sj.1;have f2:=Sj.2;clear Sj;have el:(c1++rr).length=rr.length+c1.length:=by rw[List.length_append];omega
  have e2:rr.length+(c2++c1).length=rr.length+c1.length+c2.length:=by rw[List.length_append];omega
  rw[e2]at hE⊢;have PS:lL M (tE aB av) (rr.length+c1.length):=fun m q he=>by
   refine bc fun bf=>?_;obtain⟨p,e1,e2,e3⟩:=hE m q he;refine bf ?_;exact⟨p,e1,by exact ai e2,e3⟩
  refine bc fun bf=>?_;obtain⟨w1,b1,o1,a1⟩:=hP.good X M hX f1 (uZ q3 hM) PS b hb;obtain⟨ws,ys,ef⟩:=OJ f;refine bf ?_;have Sk:b.told.length<=99000:=by exact aZ h1 hb
  induction w1 using Way.casesOn with
  |done=>
   have g2:=Wn.good X M hX (by rw[el];exact f2) (pd hM p3.1);rw[el]at g2;refine bc fun bf=>?_;obtain⟨w,b',o2,a2⟩:=g2 hE b1 a1.1;refine bf ?_;exact⟨w,b',fun d hd=>⟨Sk,iz f,ws,ys,ef,Wm,.done,b1,o1 d hd,o2 d hd⟩,a2.pre a1.2⟩
  |left=>exact⟨.left,b1,fun d hd=>⟨Sk,iz f,ws,ys,ef,Wm,.left,b1,o1 d hd,rfl,rfl⟩,a1⟩
  |gn=>exact⟨.gn,b1,fun d hd=>⟨Sk,iz f,ws,ys,ef,Wm,.gn,b1,o1 d hd,rfl,rfl⟩,a1⟩
theorem Mg{C:Cl}{n:Nat}{sv:Bool}{fs:List SF}(hlen:fs.length<=2)(hC:∀f∈fs,Ln (iz f)/\ZW n C sv f):uG n (Run C) sv (fs.map cy):=by
 intro fr rr mr aB av γ Q hp k;have pN:=i9 n;have hr:=hp.rl;have hm:=hp.ml;have FW:fs.length*BS n<=2*BS n:=Nat.mul_le_mul_right _ hlen;show gC (ex G C 60) [.gQ [aD] (.var bo) A7] (xm (.list (fs.map cy)) []) (cS fr rr mr aB 0 av γ []) (fS Q);refine ju fun F hF=>?_;refine aj (by rw[List.length_map];unfold ah;omega) ?_;refine hF _ _ _ ?_;refine OL (x:=.list (fs.map cy)) (rrB:=0) (Sb:=mr.length) hp.sv hp.bl hp.ac hp.al fs [] rr mr γ (.inl rfl) hC (aZ hr FW) (aZ hm FW) (Nat.le_refl _) fun new gN gG aG je hP=>?_;have p1:=hP.len;have p2:=hP.jZ;refine k new gN gG [] ⟨by exact aZ FW p1,by exact aZ FW p2,hP.keep,hP.FL,fun X M hX hF' hM hE b hb=>?_⟩;refine bc fun bf=>?_;obtain⟨w,b',o1,a1⟩:=hP.good X M hX hF' hM hE b hb;refine bf ?_;refine⟨w,b',fun d hd=>?_,a1⟩
 induction d using Nat.casesAuxOn with
 |zero=>exact absurd hd (by unfold DL;exact Nat.not_le_of_lt (by omega))
 |succ d=>exact Og (jA (by unfold DL at hd;exact ai hd)) (by rw[List.length_map];omega) (o1 d (by unfold DL at hd⊢;omega))
theorem Sl:∀{d:Nat},1<=d->L1 (Cd G P d)
 |0,h=>absurd h (by decide)
 |_+1,_=>RX
theorem Mh:∀{d:Nat},2<=d->L2 (Cd G P d)
 |0,h=>absurd h (by decide)
 |_+1,h=>RY (Sl (ai h))
theorem Wo:∀{d:Nat},9<=d->OC (Cd G P d)
 |0,h=>absurd h (by decide)
 |_+1,h=>V5 (jB (ai h))
noncomputable def GenAt(L:LP)(n D0:Nat):Prop:=∀d,D0<=d->∀sv ss,L sv ss->uG n (Cd G P d) sv ss
theorem OM{L L0:LP}{n d:Nat}{sv:Bool}{f:SF}(hd:12<=d)(ho:Ju L L0 sv f)(hL:∀sv b,¬L sv b)(ZX:∀sv b,¬L0 sv b):Ln (iz f)/\uF n (Cd G P d) sv f:=by
 induction d using Nat.casesAuxOn with
 |zero=>omega
 |succ d=>
  induction f using SF.casesOn with
  |call l c=>exact⟨ho.1,G5 (jB (ai hd)) ho.2⟩
  |acc l e aP fm b=>exact absurd ho.2.2 (hL _ _)
  |rU l c b o=>exact absurd ho.2.2.1 (hL _ _)
  |pY l c b l' t u o=>exact absurd ho.2.2.1 (hL _ _)
  |sel l a o=>
   obtain⟨h1,h2,h3,h4,h5⟩:=ho
   induction a using List.casesOn with
   |nil=>exact absurd rfl h2
   |cons a0 a'=>
    have:=h4 a0 List.mem_cons_self;cases a0 with
    |acc g l e aP fm b r=>exact absurd this.2.2.2 (ZX _ _)
    |dt g l t u r=>exact absurd this.2 (ZX _ _)
    |term g r=>exact absurd this (ZX _ _)
  |block l b=>exact absurd ho.2 (hL _ _)
  |dt l t u=>exact⟨ho.1,Dr (jB (ai hd)) ho.2⟩
  |abort l ts=>exact⟨ho.1,Ds (jB (ai hd)) ho.2.1 ho.2.2⟩
  |cK l q aP u=>exact⟨ho.2.1,xd (jB (by omega)) (uY (ai hd)) ho.1 ho.2.2⟩
  |ret l=>exact⟨ho.2,LY (uY (ai hd)) ho.1⟩
  |null l=>exact⟨ho,G4⟩
theorem Wq{m d:Nat}{sv:Bool}{f:SF}{Dm:Nat}(S8:12<=Dm)(hd:Dm+5<=d)(ih:GenAt (SL m) m Dm)(S9:GenAt NK 0 Dm)(ho:Ju (SL m) NK sv f):Ln (iz f)/\uF (m+1) (Cd G P d) sv f:=by
 obtain⟨d,rfl⟩:∃e,d=e+3:=⟨d-3,by exact(Nat.sub_add_cancel (ai hd)).symm⟩;have ON:iy (Cd G P (d+2)):=jB (aZ S8 hd);have Wr:iy (Cd G P (d+1)):=jB (aZ S8 hd);have hG0:iy (Cd G P d):=jB (aZ S8 hd)
 induction f using SF.casesOn with
 |call l c=>exact⟨ho.1,G5 ON ho.2⟩
 |acc l e aP fm b=>exact⟨ho.1,R1 ON ho.2.1 (xe (Mh (ai hd)) Wr (ih (d+1) (ai hd) true b ho.2.2))⟩
 |rU l c b o=>exact⟨ho.1,tF ON trivial (Oz Wr ho.2.1 (ih (d+1) (ai hd) sv b ho.2.2.1) (ih (d+1) (ai hd) sv o ho.2.2.2))⟩
 |pY l c b l' t u o=>exact⟨ho.1,tF ON trivial (OA Wr (Nat.zero_le m) ho.2.1 ho.2.2.2.1 (ih (d+1) (by omega) sv b ho.2.2.1) (S9 (d+1) (by omega) sv o ho.2.2.2.2))⟩
 |sel l a o=>
  obtain⟨h1,h2,h3,h4,h5⟩:=ho;refine⟨h1,tF ON h2 (Se Wr (Wo (aZ S8 hd)) h2 h3 (fun x hx=>?_) (fun x hx=>?_) ?_)⟩
  ·have:=h4 x hx
   induction x using cR.casesOn with
   |acc g l e aP fm b r=>exact this.2.1
   |dt g l t u r=>exact this.1
   |term g r=>trivial
  ·have:=h4 x hx
   induction x using cR.casesOn with
   |acc g l e aP fm b r=>
    refine⟨fun body hb=>?_,S9 (d+1) (by omega) sv r this.2.2.2⟩;rcases hb with _|_;exact xe (Mh (ai hd)) hG0 (ih d (ai hd) true b this.2.2.1)
   |dt g l t u r=>exact⟨fun body hb=>(by rcases hb with _|_),S9 (d+1) (by omega) sv r this.2⟩
   |term g r=>exact⟨fun body hb=>(by rcases hb with _|_),S9 (d+1) (by omega) sv r this⟩
  ·induction o using Option.casesOn with
   |none=>exact S9 (d+1) (by omega) sv [] ⟨by simp,fun x hx=>by rcases hx with _|_⟩
   |some s=>exact S9 (d+1) (by omega) sv s (h5 s rfl)
 |block l b=>exact⟨ho.1,L9 ON (L8 Wr (L7 (by omega)) (.inl rfl) (ih (d+1) (by omega) sv b ho.2))⟩
 |dt l t u=>exact⟨ho.1,Dr ON ho.2⟩
 |abort l ts=>exact⟨ho.1,Ds ON ho.2.1 ho.2.2⟩
 |cK l q aP u=>exact⟨ho.2.1,xd ON (uY (aZ S8 hd)) ho.1 ho.2.2⟩
 |ret l=>exact⟨ho.2,LY (uY (aZ S8 hd)) ho.1⟩
 |null l=>exact⟨ho,G4⟩
theorem Hc{L L0:LP}{sv:Bool}{ss:List D}(h:NJ L L0 sv ss):∃fs:List SF,ss=fs.map cy/\fs.length<=2/\∀f∈fs,Ju L L0 sv f:=by
 obtain⟨h1,h2⟩:=h
 match ss,h1,h2 with
 |[],_,_=>exact⟨[],rfl,by simp,fun f hf=>by rcases hf with _|_⟩
 |[x],_,h2=>
  obtain⟨f,ho,rfl⟩:=h2 x (by simp);exact⟨[f],rfl,by simp,fun g hg=>by rw[List.mem_singleton]at hg;exact hg▸ho⟩
 |[x,y],_,h2=>
  obtain⟨f,ho,rfl⟩:=h2 x (by simp);obtain⟨g,SY,rfl⟩:=h2 y (by simp);refine⟨[f,g],rfl,by simp,fun h hh=>?_⟩;rw[List.mem_cons,List.mem_singleton]at hh;rcases hh with rfl|rfl<;>assumption
 |_::_::_::_,h,_=>exact absurd h (by simp)
noncomputable def GD:Nat->Nat
 |0=>20
 |n+1=>GD n+10
theorem Ws:GenAt NK 0 20:=by
 intro d hd sv ss h;obtain⟨fs,rfl,hl,ho⟩:=Hc h;obtain⟨d,rfl⟩:∃e,d=e+2:=⟨d-2,by exact(Nat.sub_add_cancel (ai hd)).symm⟩;refine Mg hl fun f hf=>?_;obtain⟨h1,h2⟩:=OM (n:=0) (d:=d) (ai hd) (ho f hf) (fun _ _ h=>h) (fun _ _ h=>h);exact⟨h1,Wl (jB (ai hd)) h1 h2⟩
theorem PW:∀n,20<=GD n
 |0=>Nat.le_refl _
 |n+1=>by
  have:=PW n;show 20<=GD n+10;exact ai this
theorem Hd:∀n,GenAt (SL n) n (GD n)
 |0=>Ws
 |n+1=>by
  intro d hd sv ss h;have hg:=PW n;have hd:GD n+10<=d:=hd;obtain⟨fs,rfl,hl,ho⟩:=Hc (L:=SL n) (L0:=NK) h;obtain⟨d,rfl⟩:∃e,d=e+2:=⟨d-2,by exact(Nat.sub_add_cancel (ai hd)).symm⟩;refine Mg hl fun f hf=>?_;obtain⟨h1,h2⟩:=Wq (d:=d) (Dm:=GD n) (by omega) (ai hd) (Hd n) (fun d hd=>Ws d (aZ hg hd)) (ho f hf);exact⟨h1,Wl (jB (ai hd)) h1 h2⟩
noncomputable def Dw:Row->List Nat
 |.gL m=>[m]
 |.j9 m=>[m]
 |.bu _ _ _ _ m=>[m]
 |.select _ ms m=>ms++[m]
 |_=>[]
noncomputable def A8(f:Nat->Int)(r:Row):List D:=(Dw r).map fun m=>PyData.int (f m)
noncomputable def xn{α:Type}(a b:Bool)(x y z:Option α):Option α:=match a with
 |true=>x
 |false=>match b with
  |true=>y
  |false=>z
noncomputable def Mi{α:Type}(x:D)(K:List D->Option α):Option α:=by
 induction x using PyData.casesOn with
 |list l=>exact K l
 |_=>exact none
theorem Mj{α:Type}{motive:D->Prop}{x:D}{K:List D->Option α}{o:α}(h:Mi x K=some o)(H:∀l,motive (.list l)):motive x:=by
 revert h
 induction x using PyData.casesOn with
 |list l=>exact fun _=>H l
 |_=>exact Bp
noncomputable def A9:List Nat->List D->Option (List D)
 |[],_=>some []
 |c::cs,x::xs=>xn (Nat.beq c 106) (Nat.beq c 74) ((A9 cs xs).map (x::·)) (Mi x fun l=>(A9 cs xs).map (l++·)) (A9 cs xs)
 |_::_,[]=>none
noncomputable def Dx:List Nat->List D->List D->Option (List D)
 |[],_,_=>some []
 |c::cs,x::xs,ps=>xn (Nat.beq c 106) (Nat.beq c 74) (match ps with
  |p::ps=>(Dx cs xs ps).map (p::·)
  |[]=>none) (Mi x fun l=>if l.length<=ps.length then(Dx cs xs (ps.drop l.length)).map (.list (ps.take l.length)::·)else none) ((Dx cs xs ps).map (x::·))
 |_::_,[],_=>none
noncomputable def xp:List T:=[.fM (.cmp .eq (.sub (.var bM) (.var aW)) (.c (.str MJ))) [.expr (.append (.var cf) (.sub (.var s_row) (.bin .add (.var aW) (.c (.int (.ofNat 1))))))] [.fM (.cmp .eq (.sub (.var bM) (.var aW)) (.c (.str Us))) [.expr (.extend (.var cf) (.sub (.var s_row) (.bin .add (.var aW) (.c (.int (.ofNat 1))))))] []]]
noncomputable def xq(row:D)(parts:Str)(rest:ak):ak:=(s_row,.d row)::(bM,.d (.str parts))::(cf,.t 0)::rest
noncomputable def xr(rest:ak):Prop:=rest=[]\/∃v,rest=[(aW,.d v)]
theorem mZ{α:Type}:∀(p:List α) (x:α) (q:List α),aq (p++x::q) p.length=some x:=by
 intro l0
 induction l0 with
 |nil=>
  intro _ _;exact rfl
 |cons h0 p ih=>
  intro x q;exact ih x q
theorem PY{c:Nat}{cs:List Nat}{y:D}{ys:List D}(h:Nat.beq c 106=true):A9 (c::cs) (y::ys)=(A9 cs ys).map (y::·):=by
 show xn _ _ _ _ _=_;rw[h];rfl
theorem PZ{c:Nat}{cs:List Nat}{l ys:List D}(h:Nat.beq c 106=false)(h':Nat.beq c 74=true):A9 (c::cs) (.list l::ys)=(A9 cs ys).map (l++·):=by
 show xn _ _ _ _ _=_;rw[h,h'];rfl
theorem P4{c:Nat}{cs:List Nat}{y:D}{ys:List D}(h:Nat.beq c 106=false)(h':Nat.beq c 74=false):A9 (c::cs) (y::ys)=A9 cs ys:=by
 show xn _ _ _ _ _=_;rw[h,h'];rfl
theorem Wt{c:Nat}{cs:List Nat}{y:D}{ys:List D}(h:Nat.beq c 106=false)(h':Nat.beq c 74=true){out:List D}(ho:A9 (c::cs) (y::ys)=some out):∃l,y=.list l:=by
 have ho:xn (Nat.beq c 106) (Nat.beq c 74) _ (Mi y fun l=>(A9 cs ys).map (l++·)) _=some out:=ho;rw[h,h']at ho;exact Mj (motive:=fun y=>∃l,y=.list l) ho fun l=>⟨l,rfl⟩
theorem yt(c:Nat):fb ⟨⟨[c]⟩⟩ MJ=Nat.beq c 106:=by
 show(match Nat.beq c 106 with|true=>true|false=>false)=_;cases Nat.beq c 106<;>rfl
theorem Jf(c:Nat):fb ⟨⟨[c]⟩⟩ Us=Nat.beq c 74:=by
 show(match Nat.beq c 74 with|true=>true|false=>false)=_;cases Nat.beq c 74<;>rfl
theorem OO{C:Cl}{w:D}{parts:Str}{xs:List D}{base:List (Option aL)}{γ:Nat}{Q:KF}:∀(cs pc:List Nat) (ys px:List D) (rest:ak) (r out:List D),parts.cps.toList=pc++cs->xs=px++ys->pc.length=px.length->xr rest->pc.length+cs.length<=50->A9 cs ys=some out->r.length+out.length<=1000->
  (∀aG,xr aG->Q .next (xq (.tuple (w::xs)) parts aG) ⟨base,[.list [] (out.reverse++r)],γ⟩)->
  forL (ex G C 59) [aW] xp none (eE pc.length cs.length) (xq (.tuple (w::xs)) parts rest) ⟨base,[.list [] r],γ⟩ Q:=by
 intro l0
 induction l0 with
 |nil=>
  intro pc ys px rest r out _ _ _ hr _ ho _ k;cases ho;exact k rest hr
 |cons c cs ih=>
  intro pc ys px rest r out hp hx hl hr hb ho xg k;rcases ys with _|⟨y,ys⟩
  ·cases ho
  rw[List.length_cons]at hb;have h1:aq parts.cps.toList pc.length=some c:=by rw[hp];exact mZ _ _ _
  have yI:aq xs pc.length=some y:=by rw[hx,hl];exact mZ _ _ _
  have h2:idx (w::xs) (Int.ofNat pc.length+Int.ofNat 1)=some y:=yI;have e:pc.length+1=(pc++[c]).length:=by rw[List.length_append];rfl
  have Dy:pc.length<=ah:=by unfold ah;exact ai hb
  have FZ:pc.length+1<=ah:=by unfold ah;exact ai hb
  have next:∀(r' jC:List D) (aG:ak),xr aG->A9 cs ys=some jC->jC.reverse++r'=out.reverse++r->r'.length+jC.length<=1000->forL (ex G C 59) [aW] xp none (eE (pc.length+1) cs.length) (xq (.tuple (w::xs)) parts aG) ⟨base,[.list [] r'],γ⟩ Q:=by
   intro r' jC aG je SY heq hlen;refine az (e) ?_;refine ih (pc++[c]) ys (px++[y]) aG r' jC (by rw[hp];simp) (by rw[hx];simp) (by rw[List.length_append,List.length_append,hl];rfl) je (by rw[<-e];exact ai hb) SY hlen fun gX uB=>?_;refine az (heq) ?_;exact k gX uB
  show forL (ex G C 59) [aW] xp none (.int (Int.ofNat pc.length)::eE (pc.length+1) cs.length) (xq (.tuple (w::xs)) parts rest) ⟨base,[.list [] r],γ⟩ Q;refine az (dn) ?_;have go:∀R:ak->St->Prop,(∀(r' jC:List D) (aG:ak),xr aG->A9 cs ys=some jC->jC.reverse++r'=out.reverse++r->r'.length+jC.length<=1000->R (xq (.tuple (w::xs)) parts aG) ⟨base,[.list [] r'],γ⟩)->
    bind1 [aW] (.int (Int.ofNat pc.length)) (xq (.tuple (w::xs)) parts rest) fun ed=>gC (ex G C 59) xp ed ⟨base,[.list [] r],γ⟩ (wB R Q):=by
   intro R hR;have ZY:xr [(aW,.d (.int (Int.ofNat pc.length)))]:=.inr ⟨_,rfl⟩;cases hj:Nat.beq c 106 with
   |true=>
    have xE:(A9 cs ys).map (y::·)=some out:=(PY hj).symm.trans ho;obtain⟨jC,q1,q2⟩:=Option.map_eq_some_iff.mp xE;have fin:=hR (y::r) jC _ ZY q1 (by rw[<-q2];simp) (by rw[<-q2,List.length_cons]at xg;rw[List.length_cons];exact ai xg);rcases hr with rfl|⟨v,rfl⟩
    all_goals
     conv=>whnf
     refine az (h1) ?_
     conv=>whnf
     refine aj Dy ?_
     conv=>whnf
     rw[yt,hj]
     conv=>whnf
     refine az (h2) ?_
     conv=>whnf
     refine aj FZ ?_
     conv=>whnf
     refine⟨by show 0+r.length<ah;unfold ah;exact ai xg,?_⟩
     conv=>whnf
     exact fin
   |false=>
    cases hJ:Nat.beq c 74 with
    |true=>
     obtain⟨l,rfl⟩:=Wt hj hJ ho
     ·have xE:(A9 cs ys).map (l++·)=some out:=(PZ hj hJ).symm.trans ho;obtain⟨jC,q1,q2⟩:=Option.map_eq_some_iff.mp xE;have pI:r.length+l.length<=1000:=by rw[<-q2,List.length_append]at xg;omega
      have fin:=hR (l.reverse++r) jC _ ZY q1 (by rw[<-q2];simp) (by rw[<-q2,List.length_append]at xg;rw[List.length_append,List.length_reverse];exact ai xg);rcases hr with rfl|⟨v,rfl⟩
      all_goals
       conv=>whnf
       refine az (h1) ?_
       conv=>whnf
       refine aj Dy ?_
       conv=>whnf
       rw[yt,hj]
       conv=>whnf
       refine az (h1) ?_
       conv=>whnf
       refine aj Dy ?_
       conv=>whnf
       rw[Jf,hJ]
       conv=>whnf
       refine az (h2) ?_;refine aj FZ ?_
       conv=>whnf
       refine⟨by unfold ah;omega,?_⟩
       conv=>whnf
       exact fin
    |false=>
     have xE:A9 cs ys=some out:=(P4 hj hJ).symm.trans ho;have fin:=hR r out _ ZY xE rfl xg;rcases hr with rfl|⟨v,rfl⟩
     all_goals
      conv=>whnf
      refine az (h1) ?_
      conv=>whnf
      refine aj Dy ?_
      conv=>whnf
      rw[yt,hj]
      conv=>whnf
      refine az (h1) ?_
      conv=>whnf
      refine aj Dy ?_
      conv=>whnf
      rw[Jf,hJ];exact fin
  exact go _ next
theorem Mk{c:Nat}{cs:List Nat}{y p:D}{ys ps:List D}(h:Nat.beq c 106=true):Dx (c::cs) (y::ys) (p::ps)=(Dx cs ys ps).map (p::·):=by
 show xn _ _ _ _ _=_;rw[h];rfl
theorem Ml{c:Nat}{cs:List Nat}{y:D}{ys:List D}(h:Nat.beq c 106=true):Dx (c::cs) (y::ys) []=none:=by
 show xn _ _ _ _ _=_;rw[h];rfl
theorem Mm{c:Nat}{cs:List Nat}{l ys ps:List D}(h:Nat.beq c 106=false)(h':Nat.beq c 74=true):Dx (c::cs) (.list l::ys) ps=if l.length<=ps.length then(Dx cs ys (ps.drop l.length)).map (.list (ps.take l.length)::·)else none:=by
 show xn _ _ _ _ _=_;rw[h,h'];rfl
theorem Mn{c:Nat}{cs:List Nat}{y:D}{ys ps:List D}(h:Nat.beq c 106=false)(h':Nat.beq c 74=false):Dx (c::cs) (y::ys) ps=(Dx cs ys ps).map (y::·):=by
 show xn _ _ _ _ _=_;rw[h,h'];rfl
theorem P8{c:Nat}{cs:List Nat}{y:D}{ys ps:List D}(h:Nat.beq c 106=false)(h':Nat.beq c 74=true){out:List D}(ho:Dx (c::cs) (y::ys) ps=some out):∃l,y=.list l:=by
 have ho:xn (Nat.beq c 106) (Nat.beq c 74) _ (Mi y _) _=some out:=ho;rw[h,h']at ho;exact Mj (motive:=fun y=>∃l,y=.list l) ho fun l=>⟨l,rfl⟩
noncomputable def xt:List T:=[.fM (.cmp .eq (.sub (.var bM) (.var aW)) (.c (.str MJ))) [.expr (.append (.var l6) (.sub (.var fV) (.var kF))),.aug kF .add (.c (.int (.ofNat 1)))] [.fM (.cmp .eq (.sub (.var bM) (.var aW)) (.c (.str Us))) [.asg (.x eD) (.len (.sub (.var s_row) (.bin .add (.var aW) (.c (.int (.ofNat 1)))))),.expr (.append (.var l6) (.sy (.DT (.var fV) (some (.var kF)) (some (.bin .add (.var kF) (.var eD)))))),.aug kF .add (.var eD)] [.expr (.append (.var l6) (.sub (.var s_row) (.bin .add (.var aW) (.c (.int (.ofNat 1))))))]]]
noncomputable def xu(row:D)(pl:List D)(parts:Str)(u:Nat)(rest:ak):ak:=(s_row,.d row)::(fV,.d (.list pl))::(bM,.d (.str parts))::(l6,.t 0)::(kF,.d (.int (Int.ofNat u)))::rest
noncomputable def Ba(rest:ak):Prop:=rest=[]\/(∃v,rest=[(aW,.d v)])\/∃v c,rest=[(aW,.d v),(eD,.d c)]
theorem drop_cons{α:Type}:∀{l:List α} {u:Nat} {p:α} {ps:List α},l.drop u=p::ps->aq l u=some p/\l.drop (u+1)=ps
 |[],u,p,ps,h=>by simp at h
 |x::l,0,p,ps,h=>by rcases h with _|_;exact⟨rfl,rfl⟩
 |x::l,u+1,p,ps,h=>drop_cons (l:=l) h
theorem OP{C:Cl}{w:D}{parts:Str}{xs pl:List D}{base:List (Option aL)}{γ:Nat}{Q:KF}(xf:pl.length<=1000):∀(cs pc:List Nat) (ys px:List D) (rest:ak) (r out:List D) (u:Nat),parts.cps.toList=pc++cs->xs=px++ys->pc.length=px.length->Ba rest->pc.length+cs.length<=50->u<=pl.length->Dx cs ys (pl.drop u)=some out->r.length+out.length<=1000->
  (∀aG u',Ba aG->Q .next (xu (.tuple (w::xs)) pl parts u' aG) ⟨base,[.list [] (out.reverse++r)],γ⟩)->
  forL (ex G C 59) [aW] xt none (eE pc.length cs.length) (xu (.tuple (w::xs)) pl parts u rest) ⟨base,[.list [] r],γ⟩ Q:=by
 intro l0
 induction l0 with
 |nil=>
  intro pc ys px rest r out u _ _ _ hr _ _ ho _ k;have:out=[]:=by cases (show some []=some out from ho);rfl
  subst this;exact k rest u hr
 |cons c cs ih=>
  intro pc ys px rest r out u hp hx hl hr hb hu ho xg k;rcases ys with _|⟨y,ys⟩
  ·exact Bp ho
  rw[List.length_cons]at hb;have h1:aq parts.cps.toList pc.length=some c:=by rw[hp];exact mZ _ _ _
  have yI:aq xs pc.length=some y:=by rw[hx,hl];exact mZ _ _ _
  have h2:idx (w::xs) (Int.ofNat pc.length+Int.ofNat 1)=some y:=yI;have e:pc.length+1=(pc++[c]).length:=by rw[List.length_append];rfl
  have Dy:pc.length<=ah:=by unfold ah;exact ai hb
  have FZ:pc.length+1<=ah:=by unfold ah;exact ai hb
  have M3:0+r.length<ah:=by unfold ah;exact ai xg
  have next:∀(r' jC:List D) (u':Nat) (aG:ak),Ba aG->u'<=pl.length->Dx cs ys (pl.drop u')=some jC->jC.reverse++r'=out.reverse++r->r'.length+jC.length<=1000->forL (ex G C 59) [aW] xt none (eE (pc.length+1) cs.length) (xu (.tuple (w::xs)) pl parts u' aG) ⟨base,[.list [] r'],γ⟩ Q:=by
   intro r' jC u' aG je hu' SY heq hlen;refine az (e) ?_;refine ih (pc++[c]) ys (px++[y]) aG r' jC u' (by rw[hp];simp) (by rw[hx];simp) (by rw[List.length_append,List.length_append,hl];rfl) je (by rw[<-e];exact ai hb) hu' SY hlen fun gX u2 uB=>?_;refine az (heq) ?_;exact k gX u2 uB
  show forL (ex G C 59) [aW] xt none (.int (Int.ofNat pc.length)::eE (pc.length+1) cs.length) (xu (.tuple (w::xs)) pl parts u rest) ⟨base,[.list [] r],γ⟩ Q;refine az (dn) ?_;have go:∀R:ak->St->Prop,(∀(r' jC:List D) (u':Nat) (aG:ak),Ba aG->u'<=pl.length->Dx cs ys (pl.drop u')=some jC->jC.reverse++r'=out.reverse++r->r'.length+jC.length<=1000->R (xu (.tuple (w::xs)) pl parts u' aG) ⟨base,[.list [] r'],γ⟩)->
    bind1 [aW] (.int (Int.ofNat pc.length)) (xu (.tuple (w::xs)) pl parts u rest) fun ed=>gC (ex G C 59) xt ed ⟨base,[.list [] r],γ⟩ (wB R Q):=by
   intro R hR;cases hj:Nat.beq c 106 with
   |true=>
    cases hd:pl.drop u with
    |nil=>rw[hd,Ml hj]at ho;cases ho
    |cons p ps=>
     have F0:=drop_cons hd;have Jx:=F0.1;have ZL:=F0.2;clear F0;rw[hd,Mk hj]at ho;obtain⟨jC,q1,q2⟩:=Option.map_eq_some_iff.mp ho;have Xp:=k9 Jx;have Jx:idx pl (Int.ofNat u)=some p:=Jx;have fin:=fun aG je=>hR (p::r) jC (u+1) aG je (ai Xp) (by rw[ZL];exact q1) (by rw[<-q2];simp) (by rw[<-q2,List.length_cons]at xg;rw[List.length_cons];exact ai xg);rcases hr with rfl|⟨v,rfl⟩|⟨v,c0,rfl⟩
     ·conv=>whnf
      refine az (h1) ?_;refine aj Dy ?_
      conv=>whnf
      rw[yt,hj]
      conv=>whnf
      refine az (Jx) ?_;refine aj (by unfold ah;exact aZ xf hu) ?_;refine⟨M3,?_⟩;exact fin [(aW,.d (.int (Int.ofNat pc.length)))] (.inr (.inl ⟨_,rfl⟩))
     ·conv=>whnf
      refine az (h1) ?_
      conv=>whnf
      refine aj Dy ?_
      conv=>whnf
      rw[yt,hj]
      conv=>whnf
      refine az (Jx) ?_
      conv=>whnf
      refine aj (by unfold ah;exact aZ xf hu) ?_
      conv=>whnf
      refine⟨M3,?_⟩
      conv=>whnf
      exact fin [(aW,.d (.int (Int.ofNat pc.length)))] (.inr (.inl ⟨_,rfl⟩))
     ·conv=>whnf
      refine az (h1) ?_
      conv=>whnf
      refine aj Dy ?_
      conv=>whnf
      rw[yt,hj]
      conv=>whnf
      refine az (Jx) ?_
      conv=>whnf
      refine aj (by unfold ah;exact aZ xf hu) ?_
      conv=>whnf
      refine⟨M3,?_⟩
      conv=>whnf
      exact fin [(aW,.d (.int (Int.ofNat pc.length))),(eD,.d c0)] (.inr (.inr ⟨_,_,rfl⟩))
   |false=>
    cases hJ:Nat.beq c 74 with
    |true=>
     obtain⟨l,rfl⟩:=P8 hj hJ ho;rw[Mm hj hJ]at ho;split at ho
     ·rename_i hle;obtain⟨jC,q1,q2⟩:=Option.map_eq_some_iff.mp ho;rw[List.drop_drop]at q1;rw[List.length_drop]at hle;have pI:l.length<=1000:=by omega
      have etd:(pl.take (u+l.length)).drop u=(pl.drop u).take l.length:=by
       refine az (List.drop_take) ?_
       congr 1
       omega
      have fin:=hR (.list ((pl.drop u).take l.length)::r) jC (u+l.length) [(aW,.d (.int (Int.ofNat pc.length))),(eD,.d (.int (Int.ofNat l.length)))] (.inr (.inr ⟨_,_,rfl⟩)) (by omega) q1 (by rw[<-q2];simp) (by rw[<-q2,List.length_cons]at xg;rw[List.length_cons];exact ai xg);rw[<-etd]at fin;have Xp:u+l.length<=pl.length:=by omega
      ·rcases hr with rfl|⟨v,rfl⟩|⟨v,c0,rfl⟩
       all_goals
        conv=>whnf
        refine az (h1) ?_
        conv=>whnf
        refine aj Dy ?_
        conv=>whnf
        rw[yt,hj]
        conv=>whnf
        refine az (h1) ?_
        conv=>whnf
        refine aj Dy ?_
        conv=>whnf
        rw[Jf,hJ]
        conv=>whnf
        refine az (h2) ?_;refine aj FZ ?_;refine aj (by unfold ah;omega) ?_;refine⟨by unfold ah;exact aZ xf hu,?_⟩;refine⟨by show u+l.length<=ah;unfold ah;exact aZ xf Xp,?_⟩;refine⟨⟨Nat.le_add_right _ _,Xp,by unfold ah;omega⟩,?_⟩;refine⟨by rw[List.length_drop,List.length_take];unfold ah;omega,?_⟩;refine⟨M3,?_⟩;exact fin
     ·cases ho
    |false=>
     rw[Mn hj hJ]at ho;obtain⟨jC,q1,q2⟩:=Option.map_eq_some_iff.mp ho;have fin:=fun aG je=>hR (y::r) jC u aG je hu q1 (by rw[<-q2];simp) (by rw[<-q2,List.length_cons]at xg;rw[List.length_cons];exact ai xg);rcases hr with rfl|⟨v,rfl⟩|⟨v,c0,rfl⟩
     ·conv=>whnf
      refine az (h1) ?_;refine aj Dy ?_
      conv=>whnf
      rw[yt,hj]
      conv=>whnf
      refine az (h1) ?_;refine aj Dy ?_
      conv=>whnf
      rw[Jf,hJ]
      conv=>whnf
      refine az (h2) ?_;refine aj FZ ?_;refine⟨M3,?_⟩;exact fin [(aW,.d (.int (Int.ofNat pc.length)))] (.inr (.inl ⟨_,rfl⟩))
     ·conv=>whnf
      refine az (h1) ?_;refine aj Dy ?_
      conv=>whnf
      rw[yt,hj]
      conv=>whnf
      refine az (h1) ?_;refine aj Dy ?_
      conv=>whnf
      rw[Jf,hJ]
      conv=>whnf
      refine az (h2) ?_;refine aj FZ ?_;refine⟨M3,?_⟩;exact fin [(aW,.d (.int (Int.ofNat pc.length)))] (.inr (.inl ⟨_,rfl⟩))
     ·conv=>whnf
      refine az (h1) ?_;refine aj Dy ?_
      conv=>whnf
      rw[yt,hj]
      conv=>whnf
      refine az (h1) ?_;refine aj Dy ?_
      conv=>whnf
      rw[Jf,hJ]
      conv=>whnf
      refine az (h2) ?_;refine aj FZ ?_;refine⟨M3,?_⟩;exact fin [(aW,.d (.int (Int.ofNat pc.length))),(eD,.d c0)] (.inr (.inr ⟨_,_,rfl⟩))
  exact go _ next
structure Mo(r:Row)(w:Str)(xs:List D)(t l:Int)(parts:Str):Prop where
 enc:bV M0 r=.tuple (.str w::xs)
 look:dF w uP=some (.tuple [.int t,.int l,.str parts])
 len:parts.cps.toList.length=xs.length
 le:xs.length<=10
 jo:A9 parts.cps.toList xs=some (A8 M0 r)
 wj:∀M,∃OQ,Dx parts.cps.toList xs (A8 M r)=some OQ/\bV M r=.tuple (.str w::OQ)
theorem Sm(M:Nat->Int)(b:Bool)(ms:List Nat)(m:Nat):Dx [45,74,106] [.bool b,.list (ms.map fun m=>.int (M0 m)),.int (M0 m)] (A8 M (.select b ms m))=some [.bool b,.list (ms.map fun m=>.int (M m)),.int (M m)]:=by
 have e:A8 M (.select b ms m)=(ms.map fun m=>PyData.int (M m))++[.int (M m)]:=by
  unfold A8 Dw;rw[List.map_append];rfl
 refine az (e) ?_;have hl:(ms.map fun m=>PyData.int (M0 m)).length=ms.length:=List.length_map _;have xG:(ms.map fun m=>PyData.int (M m)).length=ms.length:=List.length_map _;refine az (Mn (by decide) (by decide)) ?_;refine az (Mm (by decide) (by decide)) ?_;refine az (if_pos (by rw[hl,List.length_append,xG];omega)) ?_;refine az (hl) ?_;refine az (List.take_left' xG) ?_;refine az (List.drop_left' xG) ?_;refine az (Mk (by decide)) ?_;rfl
theorem Sn(b:Bool)(ms:List Nat)(m:Nat):A9 [45,74,106] [.bool b,.list (ms.map fun m=>.int (M0 m)),.int (M0 m)]=some (A8 M0 (.select b ms m)):=by
 have e:A8 M0 (.select b ms m)=(ms.map fun m=>PyData.int (M0 m))++[.int (M0 m)]:=by
  unfold A8 Dw;rw[List.map_append];rfl
 refine az (e) ?_;refine az (P4 (by decide) (by decide)) ?_;refine az (PZ (by decide) (by decide)) ?_;refine az (PY (by decide)) ?_;rfl
theorem row_shape(r:Row):∃w xs t l parts,Mo r w xs t l parts:=by
 induction r using Row.casesOn with
 |select b ms m=>exact⟨bB,_,_,_,_,⟨rfl,rfl,rfl,by simp,Sn b ms m,fun M=>⟨_,Sm M b ms m,rfl⟩⟩⟩
 |_=>exact⟨_,_,_,_,_,⟨rfl,rfl,rfl,by simp,rfl,fun M=>⟨_,rfl,rfl⟩⟩⟩
noncomputable def Bb(C:Cl):Prop:=∀(r:Row) (σ:St) (Q:KV),σ.temps=[]->(Dw r).length<=100->(∀τ,Q (.d (.list (A8 M0 r))) {σ with temps:=τ})->C nF [.d (bV M0 r)] σ Q
noncomputable def He(C:Cl):Prop:=∀(r:Row) (M:Nat->Int) (σ:St) (Q:KV),σ.temps=[]->(Dw r).length<=100->(∀τ,Q (.d (bV M r)) {σ with temps:=τ})->C kU [.d (bV M0 r),.d (.list (A8 M r))] σ Q
theorem OR{C:Cl}(hs:wI C):Bb (Run C):=by
 intro r σ Q Iw hj k;obtain⟨w,xs,t,l,parts,hR⟩:=row_shape r;have sh:=fun K=>hs r σ K Iw w xs _ hR.enc hR.look;rw[hR.enc]at sh⊢;cases σ with|mk base temps γ=>
 rcases Iw with _|_;show gC (ex G C 60) ((P.code nF).take 2++([.gQ [aW] (.su (.len (.var bM))) xp]++[.ret (some (.var cf))])) [(s_row,.d (.tuple (.str w::xs)))] ⟨base,[],γ⟩ (fS Q);refine bq fun R Wu=>?_;refine sh _ ?_;refine Wu (xq (.tuple (.str w::xs)) parts []) ⟨base,[.list [] []],γ⟩ ?_;refine bq fun R2 t6=>?_;refine ju fun F hF=>?_;have hle:=hR.le;have xf:parts.length=xs.length:=by rw[<-hR.len];simp[Str.length]
 refine aj (by rw[xf];unfold ah;omega) ?_;refine aj (by rw[xf];unfold ah;omega) ?_;refine hF _ _ _ ?_;rw[mX,xf,<-hR.len];refine OO (w:=.str w) (xs:=xs) parts.cps.toList [] xs [] [] [] (A8 M0 r) rfl rfl rfl (.inl rfl) (by rw[hR.len,List.length_nil];exact ai hle) hR.jo (by unfold A8;rw[List.length_map,List.length_nil];exact ai hj) fun aG je=>?_;refine t6 _ _ ?_;have kk:∀τ,Q (.d (.list ((A8 M0 r).reverse++[]).reverse)) ⟨base,τ,γ⟩:=fun τ=>by
  rw[List.append_nil,List.reverse_reverse];exact k τ
 rcases je with rfl|⟨v,rfl⟩
 all_goals
  exact kk _
theorem So{C:Cl}(hs:wI C):He (Run C):=by
 intro r M σ Q Iw hj k;obtain⟨w,xs,t,l,parts,hR⟩:=row_shape r;obtain⟨OQ,hw,he⟩:=hR.wj M;have sh:=fun K=>hs r σ K Iw w xs _ hR.enc hR.look;have VR:(A8 M r).length<=100:=by unfold A8;rw[List.length_map];exact hj
 have hxl:∀(cs:List Nat) (ys ps out:List D),Dx cs ys ps=some out->out.length=cs.length:=by
  intro cs
  induction cs with
  |nil=>intro ys ps out h;cases (show some []=some out from h);rfl
  |cons c cs ih=>
   intro ys ps out h
   induction ys using List.casesOn with
   |nil=>exact Bp h
   |cons y ys=>
    cases h1:Nat.beq c 106 with
    |true=>
     induction ps using List.casesOn with
     |nil=>rw[Ml h1]at h;cases h
     |cons p ps=>
      rw[Mk h1]at h;obtain⟨o,q1,q2⟩:=Option.map_eq_some_iff.mp h;rw[<-q2,List.length_cons,List.length_cons,ih _ _ _ q1]
    |false=>
     cases h2:Nat.beq c 74 with
     |true=>
      obtain⟨l,rfl⟩:=P8 h1 h2 h;rw[Mm h1 h2]at h;split at h
      ·obtain⟨o,q1,q2⟩:=Option.map_eq_some_iff.mp h;rw[<-q2,List.length_cons,List.length_cons,ih _ _ _ q1]
      ·cases h
     |false=>
      rw[Mn h1 h2]at h;obtain⟨o,q1,q2⟩:=Option.map_eq_some_iff.mp h;rw[<-q2,List.length_cons,List.length_cons,ih _ _ _ q1]
 have W4:OQ.length=xs.length:=by rw[hxl _ _ _ _ hw,hR.len]
 rw[he]at k;rw[hR.enc]at sh⊢;generalize A8 M r=pl at hw VR⊢;cases σ with|mk base temps γ=>
 rcases Iw with _|_;show gC (ex G C 60) ((P.code kU).take 3++([.gQ [aW] (.su (.len (.var bM))) xt]++[.ret (some (.pj (.var l6)))])) [(s_row,.d (.tuple (.str w::xs))),(fV,.d (.list pl))] ⟨base,[],γ⟩ (fS Q);refine bq fun R Wu=>?_;refine sh _ ?_;refine Wu (xu (.tuple (.str w::xs)) pl parts 0 []) ⟨base,[.list [] [.str w]],γ⟩ ?_;refine bq fun R2 t6=>?_;refine ju fun F hF=>?_;have hle:=hR.le;have xf:parts.length=xs.length:=by rw[<-hR.len];simp[Str.length]
 refine aj (by rw[xf];unfold ah;omega) ?_;refine aj (by rw[xf];unfold ah;omega) ?_;refine hF _ _ _ ?_;rw[mX,xf,<-hR.len];refine OP (w:=.str w) (xs:=xs) (pl:=pl) (by omega) parts.cps.toList [] xs [] [] [.str w] OQ 0 rfl rfl rfl (.inl rfl) (by rw[hR.len,List.length_nil];exact ai hle) (Nat.zero_le _) hw (by rw[List.length_singleton];exact aZ (iq W4) hle) fun aG u' je=>?_;refine t6 _ _ ?_;have kk:∀τ,Q (.d (.tuple (OQ.reverse++[PyData.str w]).reverse)) ⟨base,τ,γ⟩:=fun τ=>by
  have:(OQ.reverse++[PyData.str w]).reverse=.str w::OQ:=by simp
  rw[this];exact k τ
 have hfl:(OQ.reverse++[PyData.str w]).reverse.length<=ah:=by
  rw[List.length_reverse,List.length_append,List.length_reverse,List.length_singleton];unfold ah;exact aZ (iq W4) hle
 rcases je with rfl|⟨v,rfl⟩|⟨v,c,rfl⟩
 all_goals
  refine⟨hfl,?_⟩;exact kk _
theorem OS:∀{d:Nat},2<=d->Bb (Cd G P d)
 |0,h=>absurd h (by decide)
 |_+1,h=>OR (A0 (ai h))
theorem Sp:∀{d:Nat},2<=d->He (Cd G P d)
 |0,h=>absurd h (by decide)
 |_+1,h=>So (A0 (ai h))
theorem y9{ê:ak}{P:Prop}(h:iP ê=false)(p:P):oa ê P:=by
 unfold oa;rw[h];exact p
theorem pP:∀l:List D,qU (l.map ag.d)=some l
 |[]=>rfl
 |x::l=>by
  show(match qU (l.map ag.d)with|some r=>some (x::r)|none=>none)=_;rw[pP l]
theorem Hf(l:List D):Jp (l.map ag.d)=.list [] l.reverse:=by
 unfold Jp;rw[pP]
theorem Jg{mr:List Int}{m:Nat}(h:m<mr.length):aq (items [] (mr.map PyData.int)) m=some (.d (.int (gd mr m))):=by
 unfold items gd;rw[List.nil_append,mQ,mQ,List.map_map,List.getElem?_reverse (by rw[List.length_map];exact h),List.getElem?_map,List.length_map];have:mr.length-1-m<mr.length:=F8 h;refine az (List.getElem?_eq_getElem this) ?_;rfl
theorem F1{C:Cl}{n:Nat}{fr:Fr}{rr:List Row}{mr:List Int}{aB:List (Nat×Nat)}{h av:Int}{γ:Nat}{τ:List aL}{K:List ag->St->Prop}(DO:mr.length<=100000):∀(ms:List Nat) (acc:List ag),(∀m∈ms,m<mr.length)->
  K (acc.reverse++ms.map fun m=>ag.d (.int (gd mr m))) (cS fr rr mr aB h av γ τ)->
  kh (ev G C (n+3)) G.tab (n+3) (.sub (.attr (.var af) dp) (.var eY)) eY none none [(af,.b 4)] (ms.map fun m=>PyData.int (M0 m)) acc (cS fr rr mr aB h av γ τ) K:=by
 intro l0
 induction l0 with
 |nil=>
  intro acc _ k;rw[List.map_nil,List.append_nil]at k;exact k
 |cons m ms ih=>
  intro acc hm k;have ZZ:=hm m List.mem_cons_self;have next:∀v,v=ag.d (.int (gd mr m))->kh (ev G C (n+3)) G.tab (n+3) (.sub (.attr (.var af) dp) (.var eY)) eY none none [(af,.b 4)] (ms.map fun m=>PyData.int (M0 m)) (v::acc) (cS fr rr mr aB h av γ τ) K:=fun v hv=>by
   refine ih (v::acc) (fun x hx=>hm x (List.mem_cons_of_mem _ hx)) ?_;rw[hv,List.reverse_cons,List.append_assoc];exact k
  refine az (List.map_cons) ?_;have W:∃W:ag->St->Prop,W=fun v σ=>kh (ev G C (n+3)) G.tab (n+3) (.sub (.attr (.var af) dp) (.var eY)) eY none none [(af,.b 4)] (ms.map fun m=>PyData.int (M0 m)) (v::acc) σ K:=⟨_,rfl⟩;obtain⟨W,hW⟩:=W;have Hg:W (.d (.int (gd mr m))) (cS fr rr mr aB h av γ τ):=by rw[hW];exact next _ rfl
  show ev G C (n+3) (.sub (.attr (.var af) dp) (.var eY)) [(eY,.d (.int (M0 m))),(af,.b 4)] (cS fr rr mr aB h av γ τ) fun v ab=>fz v ab fun v' au=>vc v' ((fun v σ=>kh (ev G C (n+3)) G.tab (n+3) (.sub (.attr (.var af) dp) (.var eY)) eY none none [(af,.b 4)] (ms.map fun m=>PyData.int (M0 m)) (v::acc) σ K) v' au);refine Jn (hW) ?_;clear hW
  conv=>whnf
  refine az (Jg ZZ) ?_;refine aj (by unfold ah;exact aZ DO ZZ (aZ DO ZZ)) ?_;exact Hg
noncomputable def m8:E:=.call kU [(.var s_row),(.comp (.sub (.attr (.var af) dp) (.var eY)) eY (.call nF [(.var s_row)]) none [af])]
theorem so.jm{n:Nat}{r:Row}(h:so n r):(∀m∈Dw r,m<n)/\(Dw r).length<=51:=by
 induction r using Row.casesOn with
 |gL m=>exact⟨fun x hx=>by rw[Dw,List.mem_singleton]at hx;exact hx▸h,by simp[Dw]⟩
 |j9 m=>exact⟨fun x hx=>by rw[Dw,List.mem_singleton]at hx;exact hx▸h,by simp[Dw]⟩
 |bu e f c how m=>exact⟨fun x hx=>by rw[Dw,List.mem_singleton]at hx;exact hx▸h,by simp[Dw]⟩
 |select b ms m=>
  refine⟨fun x hx=>?_,by unfold Dw;rw[List.length_append,List.length_singleton];have:=h.1.2;exact ai this⟩;unfold Dw at hx;rcases List.mem_append.mp hx with hx|hx
  ·exact h.1.1 x hx
  ·rw[List.mem_singleton]at hx;exact hx▸h.2
 |_=>exact⟨fun x hx=>(by rcases hx with _|_),Nat.zero_le _⟩
theorem Dz{C:Cl}(hJ:Bb C)(Z0:He C){fr:Fr}{rr:List Row}{mr:List Int}{aB:List (Nat×Nat)}{h av:Int}{γ:Nat}{K:List ag->St->Prop}(DO:mr.length<=100000):∀(rows:List Row) (acc:List ag),(∀r∈rows,so mr.length r)->
  K (acc.reverse++rows.map fun r=>ag.d (bV (gd mr) r)) (cS fr rr mr aB h av γ [])->
  kh (ev G C 58) G.tab 58 m8 s_row none (some (5,rr.map (bV M0))) [(af,.b 4)] (rows.map (bV M0)) acc (cS fr rr mr aB h av γ []) K:=by
 intro l0
 induction l0 with
 |nil=>
  intro acc _ k;rw[List.map_nil,List.append_nil]at k;exact⟨rfl,k⟩
 |cons r rows ih=>
  intro acc hr k;obtain⟨hj1,hj2⟩:=(hr r List.mem_cons_self).jm;have W:∃W:ag->St->Prop,W=fun v σ=>kh (ev G C 58) G.tab 58 m8 s_row none (some (5,rr.map (bV M0))) [(af,.b 4)] (rows.map (bV M0)) (v::acc) σ K:=⟨_,rfl⟩;obtain⟨W,hW⟩:=W;have Hg:W (.d (bV (gd mr) r)) (cS fr rr mr aB h av γ []):=by
   refine az (hW) ?_;refine ih (_::acc) (fun x hx=>hr x (List.mem_cons_of_mem _ hx)) ?_;rw[List.reverse_cons,List.append_assoc];exact k
  refine az (List.map_cons) ?_;refine⟨rfl,?_⟩;show ev G C 58 m8 [(s_row,.d (bV M0 r)),(af,.b 4)] (cS fr rr mr aB h av γ []) fun v ab=>fz v ab fun v' au=>vc v' ((fun v σ=>kh (ev G C 58) G.tab 58 m8 s_row none (some (5,rr.map (bV M0))) [(af,.b 4)] (rows.map (bV M0)) (v::acc) σ K) v' au);refine Jn (hW) ?_;clear hW;have hjc:=fun K=>hJ r (cS fr rr mr aB h av γ []) K rfl (by omega);have hwc:=fun K=>Z0 r (gd mr) (cS fr rr mr aB h av γ []) K rfl (by omega);have keep:vc (.d (bV (gd mr) r)) (W (.d (bV (gd mr) r)) (cS fr rr mr aB h av γ [])):=Hg;generalize bV M0 r=y at hjc hwc⊢;refine hjc _ fun τ=>?_;refine aj (by unfold A8;rw[List.length_map];unfold ah;omega) ?_;refine y9 rfl ?_;refine F1 (n:=53) DO (Dw r) [] hj1 ?_;rw[List.reverse_nil,List.nil_append];have e:((Dw r).map fun m=>ag.d (.int (gd mr m)))=(A8 (gd mr) r).map ag.d:=by
   unfold A8;rw[List.map_map];rfl
  refine az (e) ?_
  conv=>whnf
  rw[Hf,pP]
  conv=>whnf
  rw[List.reverse_reverse];refine hwc _ fun τ=>?_;exact Hg
noncomputable def Bc(C:Cl):Prop:=∀(fr:Fr) (rr:List Row) (mr:List Int) (aB:List (Nat×Nat)) (h av:Int) (γ:Nat) (Q:KV),rr.length<=100000->mr.length<=100000->jz mr.length rr->
 Q (.d (.list (rr.reverse.map (bV (gd mr))))) (cS fr rr mr aB h av γ [])->C j5 [.b 4] (cS fr rr mr aB h av γ []) Q
theorem Mp{n:Nat}{l:List Row}(h:jz n l)(r:Row)(hr:r∈l):so n r:=by
 induction l with
 |nil=>cases hr
 |cons x l ih=>
  rcases List.mem_cons.mp hr with rfl|hr
  ·exact h.1
  ·exact ih h.2 hr
theorem Mq{C:Cl}(hJ:Bb C)(Z0:He C):Bc (Run C):=by
 intro fr rr mr aB h av γ Q hr hm Ha k;have e:P.code j5=[.ret (some (.comp m8 s_row (.attr (.var af) bT) none [af]))]:=rfl;show gC (ex G C 60) (P.code j5) [(af,.b 4)] (cS fr rr mr aB h av γ []) (fS Q);refine az (e) ?_;refine az (Ax) ?_;show mA (ev G C 58) (.attr (.var af) bT) [(af,.b 4)] (cS fr rr mr aB h av γ []) (fun xs w ab=>oa (envOf [af] [(af,.b 4)])<|kh (ev G C 58) G.tab 58 m8 s_row none w (envOf [af] [(af,.b 4)]) xs [] ab fun vs au=>pR [(af,.b 4)] ab au (pS (match qU vs with|some _=>.fz|none=>.Be) (Jp vs) [(af,.b 4)] au fun v ab=>fz v ab fun v' au=>fS Q (.ret v') [(af,.b 4)] au));refine Lf fun F hF=>?_;refine aj (by rw[List.length_map];unfold ah;omega) ?_;refine hF _ _ _ ?_;clear hF F;refine y9 rfl ?_;refine Jn (List.map_reverse) ?_;refine Dz hJ Z0 hm rr.reverse [] (fun r hr=>Mp Ha r (List.mem_reverse.mp hr)) ?_;rw[List.reverse_nil,List.nil_append];have e2:(rr.reverse.map fun r=>ag.d (bV (gd mr) r))=(rr.reverse.map (bV (gd mr))).map ag.d:=by
  rw[List.map_map];rfl
 refine az (e2) ?_;generalize rr.reverse.map (bV (gd mr))=R at k⊢;rw[Hf,pP]
 conv=>whnf
 rw[List.reverse_reverse];exact k
theorem Mr:∀{d:Nat},3<=d->Bc (Cd G P d)
 |0,h=>absurd h (by decide)
 |_+1,h=>Mq (OS (ai h)) (Sp (ai h))
noncomputable def stN(fr:Fr)(o4 o5 o6 o7 o9:Option aL)(γ:Nat)(τ:List aL):St:=
 ⟨[some (mR fr.ns fr.sp fr.line fr.left),some (GP fr.body),some nM,some rZ,o4,o5,o6,o7,none,o9,none,none,none,none,none,none,some qi,some oW,some pK,some (.dict [])],τ,γ⟩
noncomputable def Wv:aL:=.inst 0 [(eh,.b 3),(bT,.b 5),(dp,.b 6),(aN,.d (.int (.ofNat 0))),(c9,.d (.int (.ofNat 0))),(uO,.d (.list [])),(iY,.b 7)]
noncomputable def Ms(C:Cl):Prop:=∀(fr:Fr) (γ:Nat) (Q:KV),Q (.d (.int (.ofNat 0))) (stN fr (some Wv) (some (.list [] [])) (some (.list [] [.int (-1)])) (some (.list [] [])) none γ [])->C dA [.b 4] (stN fr (some Wv) (some (.list [] [])) (some (.list [] [])) (some (.list [] [])) none γ []) Q
theorem Sq{C:Cl}:Ms (Run C):=by
 intro fr γ Q k;refine⟨by decide,?_⟩;exact k
noncomputable def xw(C:Cl):Prop:=∀(fr:Fr) (γ:Nat) (Q:KV),Q (.d .none) (cS fr [] [-1] [] 0 0 γ [])->C 6 [.b 4,.b 3] (stN fr (some (.inst 0 [])) none none none none γ []) Q
theorem Jh{C:Cl}(hn:Ms C):xw (Run C):=by
 intro fr γ Q k;refine⟨Nat.le_of_ble_eq_true rfl,?_⟩;refine⟨Nat.le_of_ble_eq_true rfl,?_⟩;refine⟨Nat.le_of_ble_eq_true rfl,?_⟩;refine⟨Nat.le_of_ble_eq_true rfl,?_⟩;refine⟨Nat.le_of_ble_eq_true rfl,?_⟩;refine⟨Nat.le_of_ble_eq_true rfl,?_⟩;refine⟨Nat.le_of_ble_eq_true rfl,?_⟩;refine hn fr γ _ ?_;refine⟨Nat.le_of_ble_eq_true rfl,?_⟩;refine⟨Nat.le_of_ble_eq_true rfl,?_⟩;exact k
noncomputable def tG(C:Cl):Prop:=∀(fr:Fr) (rr:List Row) (mr:List Int) (R:List D) (γ:Nat) (Q:KV),
 Q (.d .none) (stN fr (some (Fp 0 0)) (some (.list [] (rr.map (bV M0)))) (some (.list [] (mr.map PyData.int))) (some (.list [] [])) (some (Lz R)) γ [])->
 C 0 [.b 9,.d (.list R),.b 1,.d (.list [])] (stN fr (some (Fp 0 0)) (some (.list [] (rr.map (bV M0)))) (some (.list [] (mr.map PyData.int))) (some (.list [] [])) (some (.inst 3 [])) γ []) Q
theorem F2{C:Cl}:tG (Run C):=by
 intro fr rr mr R γ Q k;refine⟨Nat.le_of_ble_eq_true rfl,?_⟩;refine⟨Nat.le_of_ble_eq_true rfl,?_⟩;refine⟨Nat.le_of_ble_eq_true rfl,?_⟩;refine⟨Nat.le_of_ble_eq_true rfl,?_⟩;refine⟨Nat.le_of_ble_eq_true rfl,?_⟩;exact k
structure Bd(ss:List D)(R:List D)(rr:List Row)(mr:List Int):Prop where
 len:R.length<=60000
 rows:R=rr.reverse.map (bV (gd mr))
 good:∃new iW,qM 3 (2*BS 3) ss [] 0 [.arm] [-1, -1] new iW/\rr=.fx::(new++[.arm])/\lP (gd mr) 2 iW
noncomputable def F3(C:Cl)(ss:List D):Prop:=∀(fr:Fr) (γ:Nat) (Q:KV),fr.body=ss->
 (∀rr mr R gG τ,Bd ss R rr mr->Q (.b 9) (stN fr (some (Fp 0 0)) (some (.list [] (rr.map (bV M0)))) (some (.list [] (mr.map PyData.int))) (some (.list [] [])) (some (Lz R)) gG τ))->
 C rA [.b 3,.b 1,.d (.str fg)] (stN fr none none none none none γ []) Q
theorem OT{C:Cl}{ss:List D}(hG:xw C)(hH:G8 (sv:=false) 3 C ss .fx)(hP:Bc C)(hC:tG C):F3 (Run C) ss:=by
 intro fr γ Q hb k;have hB:BS 3=12056:=by decide
 subst hb;refine hG fr γ _ ?_;refine hH fr [] [-1] [] 0 0 γ _ ⟨by rw[hB];decide,by rw[hB];decide,(fun h=>by rcases h with _|_),by decide,(fun p hp=>by rcases hp with _|_),by decide⟩ (by rw[hB];decide) (by rw[hB];decide) (by decide) fun new iW pg Ww=>?_;have h1:=Ww.len;have h2:=Ww.jZ;have h3:=Ww.keep;have h3l:=h3.1;rw[hB]at h1 h2;simp only[List.length_cons,List.length_nil]at h2 h3l;have hlen:(new++Row.arm::[]).length=1+new.length:=by rw[List.length_append,List.length_singleton];omega
 have DO:(eU (eU iW 0 (new++Row.arm::[]).length) ([-1]:List Int).length (Row.fx::(new++Row.arm::[])).length).length=iW.length:=by rw[aE,aE]
 have Ha:jz (eU (eU iW 0 (new++Row.arm::[]).length) ([-1]:List Int).length (Row.fx::(new++Row.arm::[])).length).length (Row.fx::(new++Row.arm::[])):=by
  rw[DO];exact⟨trivial,Ww.FL.app (b:=[.arm]) ⟨trivial,trivial⟩⟩
 have hMk:lP (gd (eU (eU iW 0 (new++Row.arm::[]).length) ([-1]:List Int).length (Row.fx::(new++Row.arm::[])).length)) 2 iW:=fun m q1 q2=>by
  rw[dJ _ (by rw[aE];show 1<_;omega) (by rw[aE];exact q2),if_neg (by show ¬1=m;exact Nat.ne_of_lt (ai q1)),dJ _ (by omega) q2,if_neg (by exact Nat.ne_of_lt (ai q1))]
 generalize hmF:eU (eU iW 0 (new++Row.arm::[]).length) ([-1]:List Int).length (Row.fx::(new++Row.arm::[])).length=mF at DO Ha hMk⊢;have Z1:(Row.fx::(new++Row.arm::[])).length=new.length+2:=by rw[List.length_cons,hlen];omega
 generalize hrF:(Row.fx::(new++Row.arm::[]))=rF at Ha Z1⊢;refine hP fr rF mF [] 0 0 pg _ (aZ h1 (iq Z1)) (aZ h2 (iq DO)) Ha ?_;refine hC fr rF mF (rF.reverse.map (bV (gd mF))) pg _ ?_;exact k rF mF _ pg _ ⟨by rw[List.length_map,List.length_reverse];exact aZ h1 (iq Z1),rfl,new,iW,Ww,hrF.symm,hMk⟩
theorem Sr:∀{d:Nat},1<=d->Ms (Cd G P d)
 |0,h=>absurd h (by decide)
 |_+1,_=>Sq
theorem Ji:∀{d:Nat},2<=d->xw (Cd G P d)
 |0,h=>absurd h (by decide)
 |_+1,h=>Jh (Sr (ai h))
theorem F4:∀{d:Nat},1<=d->tG (Cd G P d)
 |0,h=>absurd h (by decide)
 |_+1,_=>F2
theorem Ss{ss:List D}(Wx:SL 3 false ss):∀{d:Nat},52<=d->G8 (sv:=false) 3 (Cd G P d) ss .fx
 |0,h=>absurd h (by decide)
 |d+1,h=>L8 (jB (ai h)) (L7 (ai h)) (.inr rfl) (Hd 3 d (by show 20+10+10+10<=d;exact ai h) false ss Wx)
theorem OU{ss:List D}(Wx:SL 3 false ss):∀{d:Nat},54<=d->F3 (Cd G P d) ss
 |0,h=>absurd h (by decide)
 |_+1,h=>OT (Ji (ai h)) (Ss Wx (ai h)) (Mr (ai h)) (F4 (ai h))
theorem xy{M:Nat->Int}:∀(new pre post:List Row),gJ ((post++(new++pre)).reverse.map (bV M)) M pre.length new:=by
 intro l0
 induction l0 with
 |nil=>
  intro _ _;exact trivial
 |cons x new ih=>
  intro pre post;refine⟨?_,?_⟩
  ·have:=ih pre (post++[x]);have e:(post++[x])++(new++pre)=post++(x::new++pre):=by simp
   rw[e]at this;exact this
  ·have e:(post++(x::new++pre)).reverse.map (bV M)=(new++pre).reverse.map (bV M)++bV M x::post.reverse.map (bV M):=by simp
   refine az (e) ?_;have h:=mZ ((new++pre).reverse.map (bV M)) (bV M x) (post.reverse.map (bV M));have hl:((new++pre).reverse.map (bV M)).length=pre.length+new.length:=by
    rw[List.length_map,List.length_reverse,List.length_append];omega
   rw[hl]at h;exact h
noncomputable def uJ:Bk:=⟨[],Int.ofNat 0⟩
noncomputable def Su:Way->D
 |.gn=>.str bz
 |_=>.int (Int.ofNat 0)
theorem Mt{X:PX}{at_:Nat}{b:Bk}(hX:nU X)(uE:idx X.pf.R (Int.ofNat at_)=some (.tuple [.str fg]))(k:∀g γ,X.Q .next (pe X.pf.R at_ g) (eV X.pf b X.b1 (lg.N []).bb (lg.N []).bC γ [])):bP X at_ (.N []) b:=by
 intro n g γ hn;have hl:at_<X.pf.R.length:=k9 uE;have DK:=hX.len
 induction n using Nat.casesAuxOn with
 |zero=>omega
 |succ n=>
  have kk:=k g γ;refine AK fun W hW=>?_;rcases g with _|_
  all_goals
   conv=>whnf
   refine az (uE) ?_;refine aj (by unfold ah;exact aZ hl DK (aZ hl DK)) ?_;exact kk
theorem Mu{C2:Cl}{pf:PF}{ss:List D}{rr:List Row}{mr:List Int}(hW:Bd ss pf.R rr mr)(Sv:pf.gI.natAbs<=ah){γ:Nat}{Q:KV}
  (k:∀w b' gG bb bC τ,w≠.left->b'.told.length<=90000->WalkL pf (DL 3) ss (uJ.tell AL) w b'->Q (.d (Su w)) (eV pf b' uJ bb bC gG τ)):
  Run (Run (Run C2)) gq [.b 10,.d (.list pf.R)] (eV pf uJ uJ none none γ []) Q:=by
 obtain⟨new,iW,hP,Mc,hM⟩:=hW.good;have hlen:=hW.len;have hR:=hW.rows;have f1:gJ pf.R (gd mr) 0 [.arm]:=by
  have:=xy (M:=gd mr) [.arm] [] (.fx::new);refine az (hR) ?_;refine az (Mc) ?_;exact this
 have f2:gJ pf.R (gd mr) 1 new:=by
  have:=xy (M:=gd mr) new [.arm] [.fx];refine az (hR) ?_;refine az (Mc) ?_;exact this
 have f3:idx pf.R (Int.ofNat (1+new.length))=some (.tuple [.str fg]):=by
  have:=(xy (M:=gd mr) [.fx] (new++[.arm]) []).2;refine az (hR) ?_;refine az (Mc) ?_;have e:(new++[Row.arm]).length+([]:List Row).length=1+new.length:=by rw[List.length_append,List.length_nil,List.length_singleton];omega
  rw[e]at this;exact this
 have e:P.code gq=(P.code gq).take 2++([.Qg wQ wR]++[.ret (some (.len (.var s_stack)))]):=rfl;show gC (ex G (Run (Run C2)) 60) (P.code gq) [(aM,.b 10),(bT,.d (.list pf.R))] (eV pf uJ uJ none none γ []) (fS Q);refine az (e) ?_;refine bq fun R Wu=>?_;refine Wu (pe pf.R 0 none) (eV pf uJ uJ (lg.N []).bb none γ []) ?_;refine bq fun R2 t6=>?_;refine az (Ax) ?_;show zi (DY (ev G (Run (Run C2)) 59) G.tab 59 wQ) (ex G (Run (Run C2)) 59) wR DX (pe pf.R 0 none) (eV pf uJ uJ (lg.N []).bb none γ []) (ML R2 (fS Q));have go:∀X:PX,X=⟨pf,C2,uJ,ML R2 (fS Q),fun b=>∀(sk:lg) (γ:Nat),Q (.d (.str bz)) (eV pf b uJ sk.bb sk.bC γ [])⟩->bP X 0 (.N []) uJ:=by
  intro X Xq;have Z2:X.pf=pf:=by rw[Xq]
  have hX:nU X:=by
   subst Xq;exact⟨Sv,fun b ê sk γ h=>h sk γ,by show pf.R.length<=90000;omega⟩
  rw[<-Z2]at f1 f2 f3;have hg:=hP.good X (gd mr) hX f2 hM (by intro m q he;cases he) (uJ.tell AL) (Nat.le_refl _);obtain⟨w,b',o1,a1⟩:=hg;refine PJ hX f1.2 (Nat.zero_le _) ?_;rw[Z2]at o1
  induction w using Way.casesOn with
  |left=>
   obtain⟨m,q,p,he,_⟩:=a1;cases he
  |gn=>
   refine a1.2 ?_;subst Xq;exact fun sk gG=>k .gn b' gG sk.bb sk.bC [] (by intro h;rcases h with _|_) a1.1 o1
  |done=>
   have ht:b'.told.length<=1+new.length:=a1.1;have S7:=k9 f3;rw[Z2]at S7;refine a1.2 (Mt hX f3 fun g gG=>?_);subst Xq;refine t6 _ _ ?_;have kk:=k .done b' gG (lg.N []).bb (lg.N []).bC [] (by intro h;rcases h with _|_) (jI hlen ht S7) o1;rcases g with _|_
   all_goals
    exact kk
 have:=go _ rfl DX none γ (by show pf.R.length<DX+0;unfold DX;exact ai hlen);exact this
theorem Mv{pf:PF}{ss:List D}{rr:List Row}{mr:List Int}(hW:Bd ss pf.R rr mr)(Sv:pf.gI.natAbs<=ah){γ d:Nat}{Q:KV}(hd:3<=d)
  (k:∀w b' gG bb bC τ,w≠.left->b'.told.length<=90000->WalkL pf (DL 3) ss (uJ.tell AL) w b'->Q (.d (Su w)) (eV pf b' uJ bb bC gG τ)):
  Cd G P d gq [.b 10,.d (.list pf.R)] (eV pf uJ uJ none none γ []) Q:=by
 obtain⟨d,rfl⟩:∃e,d=e+3:=⟨d-3,by exact(Nat.sub_add_cancel (ai hd)).symm⟩;exact Mu hW Sv k
noncomputable def lst(o0 o1 o2 o3 o16 o17 o18 o19:Option aL)(γ:Nat)(τ:List aL):St:=⟨[o0,o1,o2,o3,none,none,none,none,none,none,none,none,none,none,none,none,o16,o17,o18,o19],τ,γ⟩
noncomputable def F5:aL:=.dict [(qq,.fn lR),(vD,.fn mc),(QB,.fn sV),(D8,.fn ot),(D9,.fn ou),(Ea,.fn ox),(gp,.fn ib),(q9,.fn nG),(mG,.fn j6)]
structure LawC(C:Cl):Prop where
 tb:∀(o0:Option aL) (γ:Nat) (Q:KV),Q (.d .none) (lst o0 (some (GP [])) none none none none none none γ [])->C 47 [.b 1,.d (.str YA)] (lst o0 (some (.inst 2 [])) none none none none none none γ []) Q
 plain:∀(o0 o1:Option aL) (γ:Nat) (Q:KV),Q (.b 2) (lst o0 o1 (some F5) none none none none none γ [])->C rB [] (lst o0 o1 none none none none none none γ []) Q
 task:∀(o0 o1:Option aL) (γ:Nat) (Q:KV),Q (.b 16) (lst o0 o1 (some F5) none (some qi) none none none γ [])->C tP [] (lst o0 o1 (some F5) none none none none none γ []) Q
 name:∀(o0 o1:Option aL) (γ:Nat) (Q:KV),Q (.b 17) (lst o0 o1 (some nM) none (some qi) (some oW) none none γ [])->C tT [] (lst o0 o1 (some nM) none (some qi) none none none γ []) Q
 place:∀(o0 o1:Option aL) (γ:Nat) (Q:KV),Q (.b 18) (lst o0 o1 (some nM) none (some qi) (some oW) (some pK) none γ [])->C rD [] (lst o0 o1 (some nM) none (some qi) (some oW) none none γ []) Q
theorem Sw{C:Cl}:LawC (Run C):=by
 refine⟨?_,?_,?_,?_,?_⟩
 ·intro o0 γ Q k;refine⟨Nat.le_of_ble_eq_true rfl,?_⟩;refine⟨Nat.le_of_ble_eq_true rfl,?_⟩;refine⟨Nat.le_of_ble_eq_true rfl,?_⟩;refine⟨Nat.le_of_ble_eq_true rfl,?_⟩;refine⟨Nat.le_of_ble_eq_true rfl,?_⟩;refine⟨Nat.le_of_ble_eq_true rfl,?_⟩;exact k
 ·intro o0 o1 γ Q k;exact k
 ·intro o0 o1 γ Q k;exact k
 ·intro o0 o1 γ Q k;exact k
 ·intro o0 o1 γ Q k;exact k
noncomputable def Z3:List T:=(P.code nT).take 2
noncomputable def Z4:List T:=((P.code nT).drop 2).take 2
noncomputable def Z5:List T:=((P.code nT).drop 4).take 3
noncomputable def Z6:List T:=((P.code nT).drop 7).take 2
noncomputable def Z7:List T:=(P.code nT).drop 9
theorem law_code:P.code nT=Z3++(Z4++(Z5++(Z6++Z7))):=rfl
theorem Wy{C:Cl}(hL:LawC C)(hs:oV (SL 3) (Bz 3) 3 C)(hp:lE C)(hWh:∀ss,SL 3 false ss->F3 C ss)
  (L5:∀{pf:PF} {ss:List D} {rr:List Row} {mr:List Int},Bd ss pf.R rr mr->pf.gI.natAbs<=ah->∀{γ:Nat} {Q:KV},(∀w b' gG bb bC τ,w≠.left->b'.told.length<=90000->WalkL pf (DL 3) ss (uJ.tell AL) w b'->Q (.d (Su w)) (eV pf b' uJ bb bC gG τ))->C gq [.b 10,.d (.list pf.R)] (eV pf uJ uJ none none γ []) Q)
  (hm:MarkC C) (hWk:∀{pf:PF} {ss:List D} {b b':Bk} {w:Way},WalkL pf (DL 3) ss b w b'->oZ C pf ss b w b') {ns:List Int} (hn:ns.length<=63) {γ:Nat}:
  Run C nT [.d (.list (ns.map PyData.int))] (lst none none none none none none none none γ []) (fun m _=>m=.d (.bool true)):=by
 have jJ:(ns.map PyData.int).take 70=ns.map PyData.int:=List.take_of_length_le (by rw[List.length_map];omega);show gC (ex G C 60) (P.code nT) [(gT,.d (.list (ns.map PyData.int)))] (lst none none none none none none none none γ []) (fS fun m _=>m=.d (.bool true));refine az (law_code) ?_;refine bq fun R hR=>?_;refine⟨by decide,?_⟩;refine⟨by rw[List.length_map];unfold ah;omega,?_⟩;refine az (jJ) ?_;refine hL.tb (some (mR ns (-1) 0 12)) γ _ ?_;refine hR [(gT,.d (.list (ns.map PyData.int))),(ay,.b 0),(jO,.b 1)] (lst (some (mR ns (-1) 0 12)) (some (GP [])) none none none none none none γ []) ?_;clear hR R;refine bq fun R hR=>?_;have Z8:Bz 3=12910:=by decide
 refine hs ns 0 (-1) 0 12 [some (GP []),none,none,none,none,none,none,none,none,none,none,none,none,none,none,none,none,none,none] γ false _ (by decide) (by rw[Z8];decide) (by omega) (by decide) (by rw[Z8];decide) fun b n' il aY bU τ hb h1 h2 h3 h4=>?_;refine⟨Nat.le_of_ble_eq_true rfl,?_⟩;refine hp ns n' il aY bU [some (GP b),none,none,none,none,none,none,none,none,none,none,none,none,none,none,none,none,none,none] γ (Int.ofNat 531441) _ (by decide) h1 (aZ (iq Z8) h2) (by omega) fun gI ha0 Hm=>?_;have Hm:gI<531441:=Hm;refine hR [(gT,.d (.list (ns.map PyData.int))),(ay,.b 0),(jO,.b 1),(hI,.d (.int gI))] (lst (some (mR ns (Int.ofNat n') aY bU)) (some (GP b)) none none none none none none γ []) ?_;clear hR R;refine bq fun R hR=>?_;refine hL.plain (some (mR ns (Int.ofNat n') aY bU)) (some (GP b)) γ _ ?_;refine hL.task (some (mR ns (Int.ofNat n') aY bU)) (some (GP b)) γ _ ?_;refine⟨by decide,?_⟩;refine hL.name (some (mR ns (Int.ofNat n') aY bU)) (some (GP b)) γ _ ?_;refine hL.place (some (mR ns (Int.ofNat n') aY bU)) (some (GP b)) γ _ ?_;refine hR [(gT,.d (.list (ns.map PyData.int))),(ay,.b 0),(jO,.b 1),(hI,.d (.int gI)),(fp,.b 2),(eh,.b 3)] (stN ⟨ns,Int.ofNat n',aY,bU,b⟩ none none none none none γ []) ?_;clear hR R;refine bq fun R hR=>?_;refine hWh b hb ⟨ns,Int.ofNat n',aY,bU,b⟩ γ _ rfl fun rr mr Rw V9 τ1 hW=>?_;refine hR [(gT,.d (.list (ns.map PyData.int))),(ay,.b 0),(jO,.b 1),(hI,.d (.int gI)),(fp,.b 2),(eh,.b 3),(Ee,.b 9),(nB,.t 0)] (eV ⟨⟨ns,Int.ofNat n',aY,bU,b⟩,rr,mr,0,0,Rw,gI⟩ uJ uJ none none V9 [.list [.b 11,.b 10] []]) ?_;clear hR R;refine L5 (pf:=⟨⟨ns,Int.ofNat n',aY,bU,b⟩,rr,mr,0,0,Rw,gI⟩) hW (by show gI.natAbs<=ah;unfold ah;omega) fun w b' pg bb bC S6 Z9 CT hwk=>?_;refine(hm ⟨⟨ns,Int.ofNat n',aY,bU,b⟩,rr,mr,0,0,Rw,gI⟩ b' uJ bb bC pg _ _).2 (by decide) ?_;refine az (GY) ?_;refine hWk hwk b' bb bC pg _ fun τ3=>?_;have e1:decide (b'.told=b'.told)=true:=decide_eq_true rfl;rcases w with _|_
 ·conv=>whnf
  refine⟨b'.told,b'.told,rfl,rfl,?_⟩;refine az (e1) ?_;rfl
 ·exact absurd rfl Z9
 ·conv=>whnf
  refine⟨b'.told,b'.told,rfl,rfl,?_⟩;refine az (e1) ?_;rfl
theorem Sx:∀{d:Nat},1<=d->LawC (Cd G P d)
 |0,h=>absurd h (by decide)
 |_+1,_=>Sw
theorem Wz{d:Nat}(hd:80<=d){ns:List Int}(hn:ns.length<=63){γ:Nat}:Cd G P d nT [.d (.list (ns.map PyData.int))] (lst none none none none none none none none γ []) (fun m _=>m=.d (.bool true)):=by
 obtain⟨d,rfl⟩:∃e,d=e+1:=⟨d-1,by exact(Nat.sub_add_cancel (ai hd)).symm⟩;exact Wy (Sx (ai hd)) (Lp 3 d 3 (by decide) rfl (ai hd)) (lF (ai hd)) (fun ss Wx=>OU Wx (ai hd)) (fun hW ha _ _ k=>Mv hW ha (ai hd) k) (jA (ai hd)) (fun h=>h.at_ (by unfold DL;exact ai hd)) hn
end jD.F
namespace jD
open PySem PySem.W PySem.Calls PyProof.Rows
noncomputable abbrev σN:St:=F.lst none none none none none none none none 0 []
theorem xA:∀(n i:Nat) (x:Option aL),aq (List.replicate n (none:Option aL)) i=some x->x=none
 |0,_,_,h=>by cases h
 |_+1,0,_,h=>by cases h;rfl
 |n+1,i+1,x,h=>xA n i x h
theorem za:∀(n i:Nat) (x:Option aL),aq (List.replicate n (none:Option aL)) i=some x->aq (List.replicate n (none:Option (Addr×Addr))) i=some none
 |0,_,_,h=>by cases h
 |_+1,0,_,h=>rfl
 |n+1,i+1,x,h=>za n i x h
theorem aaa{W:Wd}{h:Heap}(up:∀b o,W.h₀.get? b=some o->h.get? b=some o):Inv W ⟨h,fun _=>.no,List.replicate 20 none,[]⟩ σN h where
 fT:=up
 gP:=fun _ _ e=>e
 lO:=fun _ _ _=>rfl
 live:=fun _ _=>rfl
 qV:=rfl
 qm:=rfl
 cb:=fun i o e=>by
  have:=xA 20 i _ e;rcases this with _|_
 cn:=fun i e=>za 20 i _ e
 ct:=fun i o e=>by rcases e with _|_
 sb:=fun i o e=>by
  have:=xA 20 i _ e;rcases this with _|_
 DZ:=fun i c r e=>by rcases e with _|_
 D1:=fun i l e=>by rcases e with _|_
theorem Jj{W:Wd}(H:iJ W NN G)(HD:Av W NN P){s:Shared}(up:∀b o,W.h₀.get? b=some o->s.heap.get? b=some o){a:Addr}{ns:List Int}{as:List Addr}(hr:Reads s.heap (.ref a) (.list (ns.map PyData.int)) as)(hn:ns.length<=63){A:Around}(hA:ix 80 1 A)
  {R:Result->Shared->Prop} (k:∀s':Shared,(∀b o,s.heap.get? b=some o->s'.heap.get? b=some o)->s'.gens=s.gens->s'.os=s.os->R (.ok (.ret (.bool true))) s'):
  codeAny (model W.prog W.w) A (.call (.ref (W.fa nT)) ⟨[.ref a],[]⟩) R s:=by
 have hc:=PA H HD 80 nT [.d (.list (ns.map PyData.int))] [.ref a] ⟨s.heap,fun _=>.no,List.replicate 20 none,[]⟩ σN s A (fun m _=>m=.d (.bool true)) hA (aaa up) ⟨⟨as,hr⟩,trivial⟩ rfl (F.Wz (Nat.le_refl _) hn);refine codeAny_mono hc fun r s' h=>?_
 match r,h with
 |.ok (.ret v),h=>
  obtain⟨m,g',aF,q,_,hv,I',P',hg,ho⟩:=h;subst q;obtain⟨bs,hb⟩:=hv;rcases hb with _|_;exact k s' (fun b o e=>(P'.fo b o e trivial).1) hg ho
end jD
namespace jD
open PySem PySem.W PyProof.Rows PySem.Challenge
section
set_option maxRecDepth 100000
inductive FnK(h:Heap)(f:Nat):Prop
 |mk (o:Obj) (fd:FuncData) (c:Addr) (oc:Obj) (vs:Array Value) (q:Str) (b:List Stmt) (sc:Scope) (ar:Arguments) (k:Value) (t:Tok) (r:List Value) (a1:h.get? (fa f)=some o) (a2:o.data=.func fd) (a3:fd.code=.ref c) (a4:h.get? c=some oc) (a5:oc.data=.fields vs) (a6:vs.toList=k::.str q t::r) (ht:textOf f=some (q,b,sc,ar))
  (c1:fd.body=.stmts b) (c2:fd.scope=sc) (c3:fd.closure=[]) (c4:fd.globals=mainGlobals) (c5:fd.builtins=builtinsNs) (c6:fd.defaults=.none) (c7:fd.params=ar) (c8:fd.qualname=q):FnK h f
structure Known(w:World)(h:Heap):Prop where
 fn:∀f<86,FnK h f
 mg:∃m,h.Ns mainGlobals m/\(∀f<86,(fnName f).cps.toList≠[]->m (fnName f)=some (.ref (fa f)))/\(∀k<4,m (clsName k)=some (.ref (ca k)))/\m ru=some (.ref 47)/\m pB=some (.ref 137)
 Np:(K0 w.params).In h
 sys:∃o,h.get? sysModules=some o
theorem Known.keeps(w:World)(h h':Heap)(x:Known w h)(k:∀b o,h.get? b=some o->h'.get? b=some o):Known w h' where
 fn f hf:=by
  obtain⟨o,fd,c,oc,vs,q,b,sc,ar,kk,tt,rr,a1,a2,a3,a4,a5,a6,ht,c1,c2,c3,c4,c5,c6,c7,c8⟩:=x.fn f hf;exact⟨o,fd,c,oc,vs,q,b,sc,ar,kk,tt,rr,k _ _ a1,a2,a3,k _ _ a4,a5,a6,ht,c1,c2,c3,c4,c5,c6,c7,c8⟩
 mg:=by
  obtain⟨m,a,r⟩:=x.mg;exact⟨m,a.keeps k,r⟩
 Np:=x.Np.keeps k
 sys:=x.sys.imp fun o e=>k _ _ e
theorem F6{h:Heap}{f:Nat}{q:Str}{b:List Stmt}{sc:Scope}{ar:Arguments}(ht:textOf f=some (q,b,sc,ar))(e:yF h.get? (fa f)=some (.stmts b,sc,[],mainGlobals,builtinsNs,.none,ar,q,q)):FnK h f:=by
 refine uQ e fun o ho e=>Gr e fun fd YE e=>Kj e fun c hc e=>uQ e fun oc YF e=>HQ e fun vs hvs e=>QG e fun kk q' t r hv e=>?_;have e:=Option.some.inj e;have b9:q'=q:=congrArg (·.2.2.2.2.2.2.2.2) e;exact⟨o,fd,c,oc,vs,q,b,sc,ar,kk,t,r,ho,YE,hc,YF,hvs,b9▸hv,ht,congrArg (·.1) e,congrArg (·.2.1) e,congrArg (·.2.2.1) e,congrArg (·.2.2.2.1) e,congrArg (·.2.2.2.2.1) e,congrArg (·.2.2.2.2.2.1) e,congrArg (·.2.2.2.2.2.2.1) e,congrArg (·.2.2.2.2.2.2.2.1) e⟩
theorem F7{α β:Type}{f g:α->β}:∀{l:List α},l.map f=l.map g->∀x∈l,f x=g x:=by
 intro l0
 induction l0 with
 |nil=>
  intro _ x hx;cases hx
 |cons y l ih=>
  intro e x hx;obtain⟨e1,e2⟩:=List.cons.inj e;cases hx with
  |head=>exact e1
  |tail _ hx=>exact ih e2 x hx
theorem Mw(w:World)(s:Shared)(e:obs s=val w):Known w s.heap:=by
 obtain⟨e1,e⟩:=Prod.mk.inj e;obtain⟨e2,e⟩:=Prod.mk.inj e;obtain⟨e3,e⟩:=Prod.mk.inj e;obtain⟨e4,e⟩:=Prod.mk.inj e;obtain⟨e5,e⟩:=Prod.mk.inj e;obtain⟨e6,e⟩:=Prod.mk.inj e;obtain⟨e7,e8⟩:=Prod.mk.inj e;refine⟨fun f hf=>?_,⟨_,.of_isNs e1,fun f hf hn=>?_,fun k hk=>F7 e4 k (List.mem_range.mpr hk),e5,e6⟩,?_,Option.isSome_iff_exists.mp e8⟩
 ·have e:=F7 e2 f (List.mem_range.mpr hf);unfold Kk at e;split at e
  ·rename_i q b sc ar ht;exact F6 ht e
  ·rename_i ht;exfalso;have:∀f∈List.range 86,(textOf f).isSome=true:=by decide+kernel
   have:=this f (List.mem_range.mpr hf);rw[ht]at this;rcases this with _|_
 ·have e:=F7 e3 f (List.mem_range.mpr hf);split at e
  ·rename_i hq;exact absurd hq hn
  ·exact e
 ·exact Frag.in_of (as:=kA) rfl e7
end
section
set_option maxRecDepth 100000
set_option maxHeartbeats 8000000
theorem WA:rw_pb0037_01.row.wellSaid=true:=by kernel_rfl
theorem WB:rw_pb0037_01.wellSaid=true:=by
 unfold OpenLaw.wellSaid
 repeat' (first|with_reducible exact WA|with_reducible refine look_both ?_ ?_|kernel_rfl)
theorem Sy:(chainsOk qv&&opensWell rw_pb0037_01.prog&&(frees rw_pb0037_01.row.toRowW&&rw_pb0037_01.row.within.isEmpty))=true:=by
 repeat' (first|with_reducible refine look_both ?_ ?_|kernel_rfl)
theorem WC (call:∀d Mx,defOf qv ("law" :Str)=some (d,Mx)->WalkO qv me (fun _ _=>True) Known (OpenLaw.row rw_pb0037_01).toRowW d Mx fun f vs=>PySem.call f vs):rw_pb0037_01.Holds:=by
 refine holds_law WB fun aac=>?_;have⟨d,Mx,Ir,hp,hk⟩:∃d Mx,defOf qv ("law" :Str)=some (d,Mx)/\pw.theDef ("law" :Str)=some (d.params,d.body,d.scope)/\kwWritten? d.params.kwonlyargs d.params.kw_defaults=some Mx:=⟨_,_,by rfl,by rfl,by rfl⟩;exact holds_open (r:=rw_pb0037_01.row) (q:=qv) (loose:=me) (Xt:=fun _=>true) (XP:=fun _ _=>True) (Yf:=obs) (Ya:=val) (YP:=Known) (N:=13000) UD Mw Known.keeps (fun _ _=>trivial) (fun _ _ _ _ _=>trivial)
  Ir hp hk (fun s _=>recFacts_nil rfl) rfl aac Sy ⟨rfl,rfl,rfl,rfl,rfl,by decide+kernel⟩ ⟨[.list [.int 3,.int 1]],by decide+kernel,by decide+kernel⟩ (call d Mx Ir)
end
end jD
namespace jD
open PySem PySem.W PySem.Calls PyProof.Rows PySem.Challenge
section
set_option maxRecDepth 100000
set_option maxHeartbeats 4000000
theorem OV{h:Heap}{a:Addr}{m m':Str->Option Value}(x:h.Ns a m)(y:h.Ns a m'):m=m':=by
 refine bc fun bf=>?_;obtain⟨o,es,ep,h1,h2,_,h3⟩:=x;obtain⟨o',Ny,ep',g1,g2,_,g3⟩:=y;refine bf ?_;rw[h1]at g1;rcases g1 with _|_;rw[h2]at g2;rcases g2 with _|_;exact funext fun n=>(h3 n).symm.trans (g3 n)
noncomputable def vI(v:Value)(K:Int->Bool):Bool:=by
 induction v using Value.casesOn with
 |int i t=>exact K i
 |_=>exact false
theorem aad{motive:Value->Prop}{v:Value}{K:Int->Bool}(h:vI v K=true)(H:∀i t,K i=true->motive (.int i t)):motive v:=by
 revert h
 induction v using Value.casesOn with
 |int i t=>exact H i t
 |_=>exact ff
noncomputable def vS(v:Value)(K:Str->Bool):Bool:=by
 induction v using Value.casesOn with
 |str i t=>exact K i
 |_=>exact false
theorem aae{motive:Value->Prop}{v:Value}{K:Str->Bool}(h:vS v K=true)(H:∀i t,K i=true->motive (.str i t)):motive v:=by
 revert h
 induction v using Value.casesOn with
 |str i t=>exact H i t
 |_=>exact ff
noncomputable def P9(d:D)(v:Value):Bool:=by
 induction d using PyData.casesOn with
 |int i=>exact vI v fun j=>decide (i=j)
 |str x=>exact vS v fun y=>fb x y
 |_=>exact false
theorem DA{h:Heap}{d:D}{v:Value}(e:P9 d v=true):Reads h v d []:=by
 revert e
 induction d using PyData.casesOn with
 |int i=>exact fun e=>aad (motive:=fun v=>Reads h v (.int i) []) e fun j t e=>of_decide_eq_true e▸ .int i t
 |str x=>exact fun e=>aae (motive:=fun v=>Reads h v (.str x) []) e fun y t e=>bj.mp e▸ .str x t
 |_=>exact ff
noncomputable def My:List D->List Value->Bool
 |[],[]=>true
 |d::ds,v::vs=>P9 d v&&My ds vs
 |_,_=>false
theorem DB{h:Heap}:∀{ds:List D} {vs:List Value},My ds vs=true->ReadsAll h vs ds []:=by
 intro ds
 induction ds with
 |nil=>
  intro vs e;rcases vs with _|⟨v,vs⟩
  ·exact .nil
  ·exact ff e
 |cons d ds ih=>
  intro vs e;rcases vs with _|⟨v,vs⟩
  ·exact ff e
  ·obtain⟨e1,e2⟩:=cx e;exact .cons (DA e1) (ih e2)
noncomputable def Mz(v:Value):Bool:=by
 induction v using Value.casesOn with
 |type n=>exact decide (n= "tuple")
 |_=>exact false
theorem Jk{v:Value}(h:Mz v=true):v=.type "tuple" :=by
 revert h
 induction v using Value.casesOn with
 |type n=>exact fun h=>of_decide_eq_true h▸rfl
 |_=>exact ff
noncomputable def WD(d:Data)(K:Array Value->Bool):Bool:=by
 induction d using Data.casesOn with
 |seq vs n=>exact K vs
 |_=>exact false
theorem Sz{motive:Data->Prop}{d:Data}{K:Array Value->Bool}(h:WD d K=true)(H:∀vs n,K vs=true->motive (.seq vs n)):motive d:=by
 revert h
 induction d using Data.casesOn with
 |seq vs n=>exact H vs n
 |_=>exact ff
noncomputable def WE(o:Obj)(ds:List D):Bool:=Mz o.cls&&WD o.data fun vs=>My ds vs.toList
noncomputable def SA(K:Frag)(a:Nat)(d:D):Bool:=by
 induction d using PyData.casesOn with
 |tuple ds=>exact qo (K.lookup a) fun o=>WE o ds
 |_=>exact false
theorem DC{K:Frag}{h:Heap}(x:K.In h){a:Nat}{d:D}(e:SA K a d=true):dQ h d (.ref a):=by
 revert e
 induction d using PyData.casesOn with
 |tuple ds=>
  intro e;have e:qo (K.lookup a) (fun o=>WE o ds)=true:=e;refine qY (motive:=fun z=>K.lookup a=z->dQ h (.tuple ds) (.ref a)) e (fun o e ho=>?_) rfl;obtain⟨e1,e2⟩:=cx e;refine Sz (motive:=fun z=>o.data=z->dQ h (.tuple ds) (.ref a)) e2 (fun vs n e2 hd=>?_) rfl;exact⟨[],.tuple (x _ _ ho) (Jk e1) hd (DB e2)⟩
 |_=>exact ff
noncomputable def SD(K:Frag):List (Str×D)->List (Str×Nat×Nat)->Bool
 |[],[]=>true
 |p::l,q::r=>fb p.1 q.1&&SA K q.2.2 p.2&&SD K l r
 |_,_=>false
theorem DD{K:Frag}{h:Heap}(X:K.In h){P:Params}:∀{l:List (Str×D)} {r:List (Str×Nat×Nat)},SD K l r=true->∀x,match dF x l with
  |some d=>∃v,findBy Value.isStrOf ⟨Hh P r⟩ x=some v/\dQ h d v
  |none=>findBy Value.isStrOf ⟨Hh P r⟩ x=none
 |[],[],_,_=>rfl
 |p::l,q::r,e,x=>by
  refine bc fun bf=>?_;obtain⟨e,e3⟩:=Bool.and_eq_true_iff.mp e;obtain⟨e1,e2⟩:=Bool.and_eq_true_iff.mp e;refine bf ?_;have ih:=DD X (P:=P) e3 x;have hk:findBy Value.isStrOf ⟨Hh P (q::r)⟩ x=match fb p.1 x with|true=>some (.ref q.2.2)|false=>findBy Value.isStrOf ⟨Hh P r⟩ x:=by
   refine az (bj.mp e1) ?_;unfold findBy;rw[List.find?_toArray,List.find?_toArray];show(List.find? _ (en P q.1 q.2.1 (.ref q.2.2)::Hh P r)).map _=_;refine az (List.find?_cons) ?_;have:Value.isStrOf x (en P q.1 q.2.1 (.ref q.2.2)).key=fb q.1 x:=(isStr_of x _).symm.trans (wc q.1 x q.2.1);refine az (this) ?_;cases fb q.1 x<;>rfl
  refine az (hk) ?_;show match(match fb p.1 x with|true=>some p.2|false=>dF x l)with|some d=>_|none=>_
  cases fb p.1 x with
  |true=>exact⟨_,rfl,DC X e2⟩
  |false=>exact ih
 |[],_::_,e,x=>by cases e
 |_::_,[],e,x=>by cases e
theorem DE{P:Params}:∀l:List (Str×Nat×Nat),KeysLit P (Hh P l)
 |[]=>trivial
 |x::l=>⟨⟨_,_,rfl,rfl⟩,DE l⟩
theorem WG{f:Nat}(h:fb (fnName f) ni=false):f<86:=by
 refine Nat.lt_of_not_le fun q=>?_;obtain⟨k,rfl⟩:=Nat.exists_eq_add_of_le' q;rcases h with _|_
noncomputable def MA(K:Frag):Bool:=(List.range 4).all fun k=>(NN.attrs.all fun x=>findIn K (.ref (ca k)) x==some none)&&findIn K (.ref (ca k)) "__getattribute__" ==some (some (.builtin "object.__getattribute__"))&&
 findIn K (.ref (ca k)) "__setattr__" ==some (some (.builtin "object.__setattr__"))&&hasDictIn K (ca k)&&plainOver K (ca k)&&makesIn K (ca k)&&findIn K (.ref (ca k)) "__init__" ==some (some (.ref (fa (G.init k))))&&
 typeIn K (.ref (fa (G.init k)))==some (.type "function")&&keepIn K (.ref (ca k))
theorem MB:∀P:Params,MA (K0 P)=true:=fun P=>by kernel_rfl
theorem aaf:∀P:Params,SD (K0 P) uP WN=true:=fun P=>by kernel_rfl
theorem aag:∀P:Params,SA (K0 P) 137 G.tup=true:=fun P=>by kernel_rfl
theorem WH:∀P:Params,(K0 P).lookup 47=some ⟨.type "dict",none,.dict ⟨Hh P WN⟩ 85,#[]⟩:=fun P=>by kernel_rfl
end
section
set_option maxRecDepth 100000
set_option maxHeartbeats 4000000
noncomputable abbrev Wof(w:World)(h:Heap)(mg mb:Str->Option Value):Wd:=⟨pw,w,h,K0 w.params,fa,ca,47,mg,mb⟩
theorem classes(P:Params)(k:Nat):(((((((((NN.attrs.all fun x=>findIn (K0 P) (.ref (ca k)) x==some none)&&findIn (K0 P) (.ref (ca k)) "__getattribute__" ==some (some (.builtin "object.__getattribute__")))&&
 findIn (K0 P) (.ref (ca k)) "__setattr__" ==some (some (.builtin "object.__setattr__")))&&hasDictIn (K0 P) (ca k))&&plainOver (K0 P) (ca k))&&makesIn (K0 P) (ca k))&&findIn (K0 P) (.ref (ca k)) "__init__" ==some (some (.ref (fa (G.init k)))))&&
 typeIn (K0 P) (.ref (fa (G.init k)))==some (.type "function"))&&keepIn (K0 P) (.ref (ca k)))=true:=by
 have h:=List.all_eq_true.mp (MB P)
 match k with
 |0=>exact h 0 (by decide)
 |1=>exact h 1 (by decide)
 |2=>exact h 2 (by decide)
 |n+3=>exact h 3 (by decide)
theorem DF{x:Str}:∀{l:List Str},uj x l=true->x∈l
 |y::l,e=>by
  rcases Bool.or_eq_true_iff.mp e with e|e
  ·exact bj.mp e▸List.mem_cons_self
  ·exact List.mem_cons_of_mem _ (DF e)
theorem DG{SE:ExcName->Option Value}{mg mb:Str->Option Value}{h:Heap}(T:Top qv (looseW qv me) SE mg mb h){x:Str}(hx:(!startupNames.contains x&& !(looseW qv me).contains x&& !((recsOf qv).map (·.name)).contains x&& !((litsOf qv).map (·.1)).contains x&& !((clssOf qv (looseW qv me)).map (·.name)).contains x)=true):mg x=none:=by
 simp only[Bool.and_eq_true,Bool.not_eq_true',<-Bool.not_eq_true,List.contains_iff_mem]at hx;exact T.free x hx.1.1.1.1 hx.1.1.1.2 hx.1.1.2 hx.1.2 hx.2
theorem wok{w:World}{h:Heap}{mg mb:Str->Option Value}{SE:ExcName->Option Value}(T:Top qv (looseW qv me) SE mg mb h)(Y:Known w h):iJ (Wof w h mg mb) NN G:=by
 refine bc fun bf=>?_;obtain⟨m,hm,m1,m2,m3,m4⟩:=Y.mg;refine bf ?_;cases OV hm T.g;exact{
  Np:=Y.Np
  g:=T.g
  b:=T.b
  fn:=fun f hf=>m1 f (WG hf) fun q=>by
   have:fb (fnName f) ni=true:=by unfold fb;rw[q];rfl
   rw[show fb (fnName f) ni=false from hf]at this;rcases this with _|_
  QK:=fun f=>by
   have go:∀f<86,∃o fd,h.get? (fa f)=some o/\o.data=.func fd:=fun f hf=>by
    refine bc fun bf=>?_;obtain⟨o,fd,_,_,_,_,_,_,_,_,_,_,a1,a2⟩:=Y.fn f hf;refine bf ?_;exact⟨o,fd,a1,a2⟩
   by_cases hf:f<86
   ·exact go f hf
   ·have:fa f=fa 85:=by
     refine bc fun bf=>?_;obtain⟨k,rfl⟩:=Nat.exists_eq_add_of_le' (Nat.le_of_not_lt hf);refine bf ?_;rfl
    show ∃o fd,h.get? (fa f)=some o/\_;refine az (this) ?_;exact go 85 (by decide)
  cls:=fun k hk=>by
   refine m2 k ?_
   match k with
   |0=>decide
   |1=>decide
   |2=>decide
   |3=>decide
   |n+4=>rcases hk with _|_
  tab:=m3
  tup:=⟨_,m4,DC Y.Np (aag _)⟩
  bl:=⟨DG T (by kernel_rfl),T.builtins _ (by decide)⟩
  br:=⟨DG T (by kernel_rfl),T.builtins _ (by decide)⟩
  bs:=⟨DG T (by kernel_rfl),T.builtins _ (by decide)⟩
  YH:=⟨DG T (by kernel_rfl),T.builtins _ (by decide)⟩
  bt:=⟨DG T (by kernel_rfl),T.builtins _ (by decide)⟩
  nolimit:=T.nolimit
  sys:=Y.sys
  nodigits:=T.nodigits
  YI:=fun k x hx=>by
   have c:=classes w.params k;simp only[Bool.and_eq_true,List.all_eq_true,beq_iff_eq]at c;exact c.1.1.1.1.1.1.1.1 x (DF hx)
  cga:=fun k=>by
   have c:=classes w.params k;simp only[Bool.and_eq_true,beq_iff_eq]at c;exact c.1.1.1.1.1.1.1.2
  csa:=fun k=>by
   have c:=classes w.params k;simp only[Bool.and_eq_true,beq_iff_eq]at c;exact c.1.1.1.1.1.1.2
  YJ:=fun k=>by
   have c:=classes w.params k;simp only[Bool.and_eq_true,beq_iff_eq]at c;exact c.1.1.1.1.1.2
  cpl:=fun k=>by
   have c:=classes w.params k;simp only[Bool.and_eq_true,beq_iff_eq]at c;exact c.1.1.1.1.2
  cmk:=fun k=>by
   have c:=classes w.params k;simp only[Bool.and_eq_true,beq_iff_eq]at c;exact c.1.1.1.2
  cin:=fun k=>by
   have c:=classes w.params k;simp only[Bool.and_eq_true,beq_iff_eq]at c;exact c.1.1.2
  cfn:=fun k=>by
   have c:=classes w.params k;simp only[Bool.and_eq_true,beq_iff_eq]at c;exact c.1.2
  ckp:=fun k=>by
   have c:=classes w.params k;simp only[Bool.and_eq_true,beq_iff_eq]at c;exact c.2
  Nq:=⟨_,mapOf_K (prog:=pw) Y.Np (WH _) (DE WN),rfl,DD Y.Np (aaf w.params)⟩}
noncomputable def xB{α:Type}(l:List α):Bool:=MI l true
noncomputable def MC{α:Type}(o:Option α):Bool:=vt o true
theorem pQ{α:Type}{l:List α}(h:xB l=true):l=[]:=tN (motive:=fun l=>l=[]) h fun _=>rfl
theorem DH{α:Type}{o:Option α}(h:MC o=true):o=none:=qX (motive:=fun o=>o=none) h fun _=>rfl
noncomputable def MD(ar:Arguments):Bool:=xB ar.posonlyargs&&(MC ar.vararg&&(xB ar.kwonlyargs&&(xB ar.kw_defaults&&(MC ar.kwarg&&xB ar.defaults))))
theorem mkA{x1 x2 x3 x4 x5 x6 x7}(g1:x1=[])(g2:x3=none)(g3:x4=[])(g4:x5=[])(g5:x6=none)(g6:x7=[]):Arguments.mk x1 x2 x3 x4 x5 x6 x7=⟨[],x2,none,[],[],none,[]⟩:=by
 rw[g1,g2,g3,g4,g5,g6]
theorem Jl{ar:Arguments}(h:MD ar=true):ar=⟨[],ar.args,none,[],[],none,[]⟩:=by
 refine bc fun bf=>?_;obtain⟨x1,x2,x3,x4,x5,x6,x7⟩:=ar;obtain⟨h1,h⟩:=cx h;obtain⟨h2,h⟩:=cx h;obtain⟨h3,h⟩:=cx h;obtain⟨h4,h⟩:=cx h;obtain⟨h5,h6⟩:=cx h;refine bf ?_;exact mkA (pQ h1) (DH h2) (pQ h3) (pQ h4) (DH h5) (pQ h6)
noncomputable def isFn(k:ScopeKind):Bool:=by
 induction k using ScopeKind.casesOn with
 |function=>exact true
 |_=>exact false
theorem OW{k:ScopeKind}(h:isFn k=true):k=.function:=by
 revert h
 induction k using ScopeKind.casesOn with
 |function=>exact fun _=>rfl
 |_=>exact ff
theorem WI{b:Bool}(h:(!b)=true):b=false:=by
 cases b
 ·rfl
 ·exact ff h
noncomputable def SG(f:Nat)(b:List Stmt)(sc:Scope)(ar:Arguments):Bool:=qZ (l5 NN 60 sc.names) (P.code f) b&&(decide (ar.args.map (·.arg)=P.par f)&&(decide (P.par f).Nodup&&(((P.par f).all fun y=>sc.names.lookup y==some .local||sc.names.lookup y==some .cell)&&
 (isFn sc.kind&&(!sc.isCoroutine&&(!sc.isGenerator&&((sc.names.all fun p=>p.2 != .free)&&MD ar)))))))
noncomputable def aai(f:Nat):Bool:=qo (textOf f) fun x=>SG f x.2.1 x.2.2.1 x.2.2.2
noncomputable def SH(t:T):Bool:=by
 induction t using T.casesOn with
 |no=>exact true
 |_=>exact false
theorem OX{t:T}(h:SH t=true):t=.no:=by
 revert h
 induction t using T.casesOn with
 |no=>exact fun _=>rfl
 |_=>exact ff
noncomputable def SI(f:Nat):Bool:=yC (P.code f) SH
theorem Jm{l:List T}(h:yC l SH=true):l=[.no]:=jh h fun _ h=>congrArg (fun t=>[t]) (OX h)
theorem WJ:((List.range 86).all fun f=>SI f||aai f)=true:=by kernel_rfl
theorem SJ{w:World}{h:Heap}{mg mb:Str->Option Value}(Y:Known w h):Av (Wof w h mg mb) NN P:=fun f=>by
 by_cases hf:f<86
 ·rcases Bool.or_eq_true_iff.mp (List.all_eq_true.mp WJ f (List.mem_range.mpr hf))with e|e
  ·exact .inr (Jm e)
  ·refine .inl ?_;refine bc fun hn=>?_;obtain⟨o,fd,c,oc,vs,q,b,sc,ar,k,t,r,a1,a2,a3,a4,a5,a6,ht,c1,c2,c3,c4,c5,c6,c7,c8⟩:=Y.fn f hf;have e:qo (textOf f) (fun x=>SG f x.2.1 x.2.2.1 x.2.2.2)=true:=e;rw[ht]at e;have e:SG f b sc ar=true:=e;obtain⟨e1,e⟩:=cx e;obtain⟨e2,e⟩:=cx e;obtain⟨e3,e⟩:=cx e;obtain⟨e4,e⟩:=cx e;obtain⟨e5,e⟩:=cx e;obtain⟨e6,e⟩:=cx e;obtain⟨e7,e⟩:=cx e;obtain⟨e8,e9⟩:=cx e;refine hn ⟨b,sc,⟨⟨o,fd,ar.args,a1,a2,⟨c,oc,vs,t,a3,a4,a5,?_⟩,c1,c2,c3,c4,c5,c6,c7.trans (Jl e9),of_decide_eq_true e2⟩,of_decide_eq_true e3,e4,OW e5,WI e6,WI e7,e8⟩,e1⟩;refine az (c8) ?_;refine Jn (Array.getElem?_toList) ?_;refine az (a6) ?_;rfl
 ·refine .inr ?_;obtain⟨k,rfl⟩:=Nat.exists_eq_add_of_le' (Nat.le_of_not_lt hf);rfl
end
end jD
namespace jD
open PySem PySem.W PyProof.Rows PySem.Challenge
section
set_option maxRecDepth 100000
set_option maxHeartbeats 4000000
set_option tactic.hygienic true
theorem WK:∀d Mx,defOf qv ("law" :Str)=some (d,Mx)->WalkO qv me (fun _ _=>True) Known (OpenLaw.row rw_pb0037_01).toRowW d Mx fun f vs=>PySem.call f vs:=by
 intro d Mx Ir w adJ bQ mg mb G Y fa' o pm cd doc dV kV ho hd xF hD hmg hg args vals as Ox aaj hrd Z9 Wb;have T:=G.T;have aak:d.name=fnName 85:=by
  have:(defOf qv ("law" :Str)).map (fun x=>x.1.name)=some (fnName 85):=by kernel_rfl
  rw[Ir]at this;exact Option.some.inj this
 wrow_args Ox aaj hrd Z9 Wb
 rename_i ns _ _ _ _ _ _ a _ _ _ _ _ r0 _ _ hc _;have ZV:fa'=fa nT:=by
  have h:=(wok T Y).fn 85 rfl;rw[aak]at hmg;exact Value.ref.inj (Option.some.inj (hmg.symm.trans h))
 subst ZV;refine enter_call ?_;refine Jj (W:=Wof w bQ.heap mg mb) (wok T Y) (SJ Y) (fun _ _ e=>e) r0 (by have:=hc;omega) ⟨rfl,by decide,by decide,rfl⟩ fun s' hk WL Ah=>?_;refine GoodW.toG ⟨.inl ⟨.bool true,.bool true,[],rfl,fun _=>rfl,.bool true,?_,fun _=>⟨List.nodup_nil,fun _ h=>nomatch h⟩⟩,hk,Ah,WL.trans hg⟩
 first|decide|(show WTm.holds _ _=true;decide)|simp|(with_unfolding_all rfl)
end
end jD
theorem PySem.Challenge.cw_pb0037_01_holds : PySem.Challenge.rw_pb0037_01.Holds :=
 jD.WC jD.WK
