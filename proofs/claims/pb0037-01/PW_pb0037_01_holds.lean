import PyProof.Rows.All
import Wide.All
import OpenK.AllK
import Wide.FinOn
import Lean
import PySem.Challenge.RW_pb0037_01
set_option Elab.async false
set_option linter.all false
set_option genSizeOf false
set_option genInjectivity false
set_option tactic.hygienic false
set_option backward.match.sparseCases false
set_option maxRecDepth 8000
namespace jB
theorem SU{P:Prop}{p:Prop}(h:p)(k:p->P):P:=k h
theorem W8{P:Prop}{α:Sort _}{p:α->Prop}(h:∃x0,p x0)(k:∀x0,p x0->P):P:=h.elim fun x h=>SU h (k x)
theorem PR{P:Prop}{α:Sort _}{β:Sort _}{p:α->β->Prop}(h:∃x0,∃x1,p x0 x1)(k:∀x0 x1,p x0 x1->P):P:=h.elim fun x h=>W8 h (k x)
theorem SV{P:Prop}{p q:Prop}(h:p/\q)(k:p->q->P):P:=SU h.2 (k h.1)
theorem bR{P:Prop}{α:Sort _}{p q:α->Prop}(h:∃x0,p x0/\q x0)(k:∀x0,p x0->q x0->P):P:=h.elim fun x h=>SV h (k x)
theorem nW{P:Prop}{α:Sort _}{β:Sort _}{p q:α->β->Prop}(h:∃x0,∃x1,p x0 x1/\q x0 x1)(k:∀x0 x1,p x0 x1->q x0 x1->P):P:=h.elim fun x h=>bR h (k x)
theorem qd{P:Prop}{α:Sort _}{β:Sort _}{γ:Sort _}{p q:α->β->γ->Prop}(h:∃x0,∃x1,∃x2,p x0 x1 x2/\q x0 x1 x2)(k:∀x0 x1 x2,p x0 x1 x2->q x0 x1 x2->P):P:=h.elim fun x h=>nW h (k x)
theorem SW{P:Prop}{α:Sort _}{β:Sort _}{γ:Sort _}{δ:Sort _}{p q:α->β->γ->δ->Prop}(h:∃x0,∃x1,∃x2,∃x3,p x0 x1 x2 x3/\q x0 x1 x2 x3)(k:∀x0 x1 x2 x3,p x0 x1 x2 x3->q x0 x1 x2 x3->P):P:=h.elim fun x h=>qd h (k x)
theorem nX{P:Prop}{p q r:Prop}(h:p/\q/\r)(k:p->q->r->P):P:=SV h.2 (k h.1)
theorem i8{P:Prop}{α:Sort _}{p q r:α->Prop}(h:∃x0,p x0/\q x0/\r x0)(k:∀x0,p x0->q x0->r x0->P):P:=h.elim fun x h=>nX h (k x)
theorem PS{P:Prop}{α:Sort _}{β:Sort _}{p q r:α->β->Prop}(h:∃x0,∃x1,p x0 x1/\q x0 x1/\r x0 x1)(k:∀x0 x1,p x0 x1->q x0 x1->r x0 x1->P):P:=h.elim fun x h=>i8 h (k x)
theorem nY{P:Prop}{α:Sort _}{β:Sort _}{γ:Sort _}{p q r:α->β->γ->Prop}(h:∃x0,∃x1,∃x2,p x0 x1 x2/\q x0 x1 x2/\r x0 x1 x2)(k:∀x0 x1 x2,p x0 x1 x2->q x0 x1 x2->r x0 x1 x2->P):P:=h.elim fun x h=>PS h (k x)
theorem MI{P:Prop}{α:Sort _}{β:Sort _}{γ:Sort _}{δ:Sort _}{p q r:α->β->γ->δ->Prop}(h:∃x0,∃x1,∃x2,∃x3,p x0 x1 x2 x3/\q x0 x1 x2 x3/\r x0 x1 x2 x3)(k:∀x0 x1 x2 x3,p x0 x1 x2 x3->q x0 x1 x2 x3->r x0 x1 x2 x3->P):P:=h.elim fun x h=>nY h (k x)
theorem nZ{P:Prop}{p q r s:Prop}(h:p/\q/\r/\s)(k:p->q->r->s->P):P:=nX h.2 (k h.1)
theorem yZ{P:Prop}{α:Sort _}{p q r s:α->Prop}(h:∃x0,p x0/\q x0/\r x0/\s x0)(k:∀x0,p x0->q x0->r x0->s x0->P):P:=h.elim fun x h=>nZ h (k x)
theorem DI{P:Prop}{α:Sort _}{β:Sort _}{p q r s:α->β->Prop}(h:∃x0,∃x1,p x0 x1/\q x0 x1/\r x0 x1/\s x0 x1)(k:∀x0 x1,p x0 x1->q x0 x1->r x0 x1->s x0 x1->P):P:=h.elim fun x h=>yZ h (k x)
theorem lW{P:Prop}{α:Sort _}{β:Sort _}{γ:Sort _}{p q r s:α->β->γ->Prop}(h:∃x0,∃x1,∃x2,p x0 x1 x2/\q x0 x1 x2/\r x0 x1 x2/\s x0 x1 x2)(k:∀x0 x1 x2,p x0 x1 x2->q x0 x1 x2->r x0 x1 x2->s x0 x1 x2->P):P:=h.elim fun x h=>DI h (k x)
theorem Jq{P:Prop}{α:Sort _}{β:Sort _}{γ:Sort _}{δ:Sort _}{p q r s:α->β->γ->δ->Prop}(h:∃x0,∃x1,∃x2,∃x3,p x0 x1 x2 x3/\q x0 x1 x2 x3/\r x0 x1 x2 x3/\s x0 x1 x2 x3)(k:∀x0 x1 x2 x3,p x0 x1 x2 x3->q x0 x1 x2 x3->r x0 x1 x2 x3->s x0 x1 x2 x3->P):P:=h.elim fun x h=>lW h (k x)
theorem MJ{P:Prop}{p q r s t:Prop}(h:p/\q/\r/\s/\t)(k:p->q->r->s->t->P):P:=nZ h.2 (k h.1)
theorem SX{P:Prop}{α:Sort _}{p q r s t:α->Prop}(h:∃x0,p x0/\q x0/\r x0/\s x0/\t x0)(k:∀x0,p x0->q x0->r x0->s x0->t x0->P):P:=h.elim fun x h=>MJ h (k x)
theorem W9{P:Prop}{α:Sort _}{β:Sort _}{p q r s t:α->β->Prop}(h:∃x0,∃x1,p x0 x1/\q x0 x1/\r x0 x1/\s x0 x1/\t x0 x1)(k:∀x0 x1,p x0 x1->q x0 x1->r x0 x1->s x0 x1->t x0 x1->P):P:=h.elim fun x h=>SX h (k x)
theorem SY{P:Prop}{α:Sort _}{β:Sort _}{γ:Sort _}{p q r s t:α->β->γ->Prop}(h:∃x0,∃x1,∃x2,p x0 x1 x2/\q x0 x1 x2/\r x0 x1 x2/\s x0 x1 x2/\t x0 x1 x2)(k:∀x0 x1 x2,p x0 x1 x2->q x0 x1 x2->r x0 x1 x2->s x0 x1 x2->t x0 x1 x2->P):P:=h.elim fun x h=>W9 h (k x)
theorem Xa{P:Prop}{α:Sort _}{β:Sort _}{γ:Sort _}{δ:Sort _}{p q r s t:α->β->γ->δ->Prop}(h:∃x0,∃x1,∃x2,∃x3,p x0 x1 x2 x3/\q x0 x1 x2 x3/\r x0 x1 x2 x3/\s x0 x1 x2 x3/\t x0 x1 x2 x3)(k:∀x0 x1 x2 x3,p x0 x1 x2 x3->q x0 x1 x2 x3->r x0 x1 x2 x3->s x0 x1 x2 x3->t x0 x1 x2 x3->P):P:=h.elim fun x h=>SY h (k x)
theorem S3{P:Prop}{p q r s t u:Prop}(h:p/\q/\r/\s/\t/\u)(k:p->q->r->s->t->u->P):P:=MJ h.2 (k h.1)
theorem Xb{P:Prop}{α:Sort _}{p q r s t u:α->Prop}(h:∃x0,p x0/\q x0/\r x0/\s x0/\t x0/\u x0)(k:∀x0,p x0->q x0->r x0->s x0->t x0->u x0->P):P:=h.elim fun x h=>S3 h (k x)
theorem S4{P:Prop}{p q r s t u v:Prop}(h:p/\q/\r/\s/\t/\u/\v)(k:p->q->r->s->t->u->v->P):P:=S3 h.2 (k h.1)
theorem Xc{P:Prop}{α:Sort _}{p q r s t u v:α->Prop}(h:∃x0,p x0/\q x0/\r x0/\s x0/\t x0/\u x0/\v x0)(k:∀x0,p x0->q x0->r x0->s x0->t x0->u x0->v x0->P):P:=h.elim fun x h=>S4 h (k x)
theorem Xd{P:Prop}{α:Sort _}{β:Sort _}{p q r s t u v:α->β->Prop}(h:∃x0,∃x1,p x0 x1/\q x0 x1/\r x0 x1/\s x0 x1/\t x0 x1/\u x0 x1/\v x0 x1)(k:∀x0 x1,p x0 x1->q x0 x1->r x0 x1->s x0 x1->t x0 x1->u x0 x1->v x0 x1->P):P:=h.elim fun x h=>Xc h (k x)
theorem S5{P:Prop}{α:Sort _}{β:Sort _}{γ:Sort _}{p q r s t u v:α->β->γ->Prop}(h:∃x0,∃x1,∃x2,p x0 x1 x2/\q x0 x1 x2/\r x0 x1 x2/\s x0 x1 x2/\t x0 x1 x2/\u x0 x1 x2/\v x0 x1 x2)(k:∀x0 x1 x2,p x0 x1 x2->q x0 x1 x2->r x0 x1 x2->s x0 x1 x2->t x0 x1 x2->u x0 x1 x2->v x0 x1 x2->P):P:=h.elim fun x h=>Xd h (k x)
theorem Xe{P:Prop}{p q r s t u v w:Prop}(h:p/\q/\r/\s/\t/\u/\v/\w)(k:p->q->r->s->t->u->v->w->P):P:=S4 h.2 (k h.1)
theorem Xf{P:Prop}{p q r s t u v w x:Prop}(h:p/\q/\r/\s/\t/\u/\v/\w/\x)(k:p->q->r->s->t->u->v->w->x->P):P:=Xe h.2 (k h.1)
theorem S6{P:Prop}{p q r s t u v w x y:Prop}(h:p/\q/\r/\s/\t/\u/\v/\w/\x/\y)(k:p->q->r->s->t->u->v->w->x->y->P):P:=Xf h.2 (k h.1)
theorem OO{P:Prop}{p q r s t u v w x y z:Prop}(h:p/\q/\r/\s/\t/\u/\v/\w/\x/\y/\z)(k:p->q->r->s->t->u->v->w->x->y->z->P):P:=S6 h.2 (k h.1)
theorem S7{P:Prop}{α:Sort _}{p q r s t u v w x y z:α->Prop}(h:∃x0,p x0/\q x0/\r x0/\s x0/\t x0/\u x0/\v x0/\w x0/\x x0/\y x0/\z x0)(k:∀x0,p x0->q x0->r x0->s x0->t x0->u x0->v x0->w x0->x x0->y x0->z x0->P):P:=h.elim fun x h=>OO h (k x)
theorem S8{P:Prop}{α:Sort _}{β:Sort _}{p q r s t u v w x y z:α->β->Prop}(h:∃x0,∃x1,p x0 x1/\q x0 x1/\r x0 x1/\s x0 x1/\t x0 x1/\u x0 x1/\v x0 x1/\w x0 x1/\x x0 x1/\y x0 x1/\z x0 x1)(k:∀x0 x1,p x0 x1->q x0 x1->r x0 x1->s x0 x1->t x0 x1->u x0 x1->v x0 x1->w x0 x1->x x0 x1->y x0 x1->z x0 x1->P):P:=h.elim fun x h=>S7 h (k x)
theorem S9{P:Prop}{α:Sort _}{β:Sort _}{γ:Sort _}{p q r s t u v w x y z:α->β->γ->Prop}(h:∃x0,∃x1,∃x2,p x0 x1 x2/\q x0 x1 x2/\r x0 x1 x2/\s x0 x1 x2/\t x0 x1 x2/\u x0 x1 x2/\v x0 x1 x2/\w x0 x1 x2/\x x0 x1 x2/\y x0 x1 x2/\z x0 x1 x2)(k:∀x0 x1 x2,p x0 x1 x2->q x0 x1 x2->r x0 x1 x2->s x0 x1 x2->t x0 x1 x2->u x0 x1 x2->v x0 x1 x2->w x0 x1 x2->x x0 x1 x2->y x0 x1 x2->z x0 x1 x2->P):P:=h.elim fun x h=>S8 h (k x)
theorem Ta{P:Prop}{p q r s t u v w x y z a:Prop}(h:p/\q/\r/\s/\t/\u/\v/\w/\x/\y/\z/\a)(k:p->q->r->s->t->u->v->w->x->y->z->a->P):P:=OO h.2 (k h.1)
theorem Tb{P:Prop}{α:Sort _}{p q r s t u v w x y z a:α->Prop}(h:∃x0,p x0/\q x0/\r x0/\s x0/\t x0/\u x0/\v x0/\w x0/\x x0/\y x0/\z x0/\a x0)(k:∀x0,p x0->q x0->r x0->s x0->t x0->u x0->v x0->w x0->x x0->y x0->z x0->a x0->P):P:=h.elim fun x h=>Ta h (k x)
theorem Tc{P:Prop}{α:Sort _}{β:Sort _}{p q r s t u v w x y z a:α->β->Prop}(h:∃x0,∃x1,p x0 x1/\q x0 x1/\r x0 x1/\s x0 x1/\t x0 x1/\u x0 x1/\v x0 x1/\w x0 x1/\x x0 x1/\y x0 x1/\z x0 x1/\a x0 x1)(k:∀x0 x1,p x0 x1->q x0 x1->r x0 x1->s x0 x1->t x0 x1->u x0 x1->v x0 x1->w x0 x1->x x0 x1->y x0 x1->z x0 x1->a x0 x1->P):P:=h.elim fun x h=>Tb h (k x)
theorem Td{P:Prop}{α:Sort _}{β:Sort _}{γ:Sort _}{p q r s t u v w x y z a:α->β->γ->Prop}(h:∃x0,∃x1,∃x2,p x0 x1 x2/\q x0 x1 x2/\r x0 x1 x2/\s x0 x1 x2/\t x0 x1 x2/\u x0 x1 x2/\v x0 x1 x2/\w x0 x1 x2/\x x0 x1 x2/\y x0 x1 x2/\z x0 x1 x2/\a x0 x1 x2)(k:∀x0 x1 x2,p x0 x1 x2->q x0 x1 x2->r x0 x1 x2->s x0 x1 x2->t x0 x1 x2->u x0 x1 x2->v x0 x1 x2->w x0 x1 x2->x x0 x1 x2->y x0 x1 x2->z x0 x1 x2->a x0 x1 x2->P):P:=h.elim fun x h=>Tc h (k x)
theorem Te{P:Prop}{α:Sort _}{β:Sort _}{γ:Sort _}{δ:Sort _}{p q r s t u v w x y z a:α->β->γ->δ->Prop}(h:∃x0,∃x1,∃x2,∃x3,p x0 x1 x2 x3/\q x0 x1 x2 x3/\r x0 x1 x2 x3/\s x0 x1 x2 x3/\t x0 x1 x2 x3/\u x0 x1 x2 x3/\v x0 x1 x2 x3/\w x0 x1 x2 x3/\x x0 x1 x2 x3/\y x0 x1 x2 x3/\z x0 x1 x2 x3/\a x0 x1 x2 x3)(k:∀x0 x1 x2 x3,p x0 x1 x2 x3->q x0 x1 x2 x3->r x0 x1 x2 x3->s x0 x1 x2 x3->t x0 x1 x2 x3->u x0 x1 x2 x3->v x0 x1 x2 x3->w x0 x1 x2 x3->x x0 x1 x2 x3->y x0 x1 x2 x3->z x0 x1 x2 x3->a x0 x1 x2 x3->P):P:=h.elim fun x h=>Td h (k x)
theorem Tf{P:Prop}{α:Sort _}{β:Sort _}{γ:Sort _}{δ:Sort _}{ε:Sort _}{p q r s t u v w x y z a:α->β->γ->δ->ε->Prop}(h:∃x0,∃x1,∃x2,∃x3,∃x4,p x0 x1 x2 x3 x4/\q x0 x1 x2 x3 x4/\r x0 x1 x2 x3 x4/\s x0 x1 x2 x3 x4/\t x0 x1 x2 x3 x4/\u x0 x1 x2 x3 x4/\v x0 x1 x2 x3 x4/\w x0 x1 x2 x3 x4/\x x0 x1 x2 x3 x4/\y x0 x1 x2 x3 x4/\z x0 x1 x2 x3 x4/\a x0 x1 x2 x3 x4)(k:∀x0 x1 x2 x3 x4,p x0 x1 x2 x3 x4->q x0 x1 x2 x3 x4->r x0 x1 x2 x3 x4->s x0 x1 x2 x3 x4->t x0 x1 x2 x3 x4->u x0 x1 x2 x3 x4->v x0 x1 x2 x3 x4->w x0 x1 x2 x3 x4->x x0 x1 x2 x3 x4->y x0 x1 x2 x3 x4->z x0 x1 x2 x3 x4->a x0 x1 x2 x3 x4->P):P:=h.elim fun x h=>Te h (k x)
theorem Ti{P:Prop}{α:Sort _}{β:Sort _}{γ:Sort _}{δ:Sort _}{ε:Sort _}{ζ:Sort _}{p q r s t u v w x y z a:α->β->γ->δ->ε->ζ->Prop}(h:∃x0,∃x1,∃x2,∃x3,∃x4,∃x5,p x0 x1 x2 x3 x4 x5/\q x0 x1 x2 x3 x4 x5/\r x0 x1 x2 x3 x4 x5/\s x0 x1 x2 x3 x4 x5/\t x0 x1 x2 x3 x4 x5/\u x0 x1 x2 x3 x4 x5/\v x0 x1 x2 x3 x4 x5/\w x0 x1 x2 x3 x4 x5/\x x0 x1 x2 x3 x4 x5/\y x0 x1 x2 x3 x4 x5/\z x0 x1 x2 x3 x4 x5/\a x0 x1 x2 x3 x4 x5)(k:∀x0 x1 x2 x3 x4 x5,p x0 x1 x2 x3 x4 x5->q x0 x1 x2 x3 x4 x5->r x0 x1 x2 x3 x4 x5->s x0 x1 x2 x3 x4 x5->t x0 x1 x2 x3 x4 x5->u x0 x1 x2 x3 x4 x5->v x0 x1 x2 x3 x4 x5->w x0 x1 x2 x3 x4 x5->x x0 x1 x2 x3 x4 x5->y x0 x1 x2 x3 x4 x5->z x0 x1 x2 x3 x4 x5->a x0 x1 x2 x3 x4 x5->P):P:=h.elim fun x h=>Tf h (k x)
theorem Tj{P:Prop}{α:Sort _}{β:Sort _}{γ:Sort _}{δ:Sort _}{ε:Sort _}{ζ:Sort _}{η:Sort _}{p q r s t u v w x y z a:α->β->γ->δ->ε->ζ->η->Prop}(h:∃x0,∃x1,∃x2,∃x3,∃x4,∃x5,∃x6,p x0 x1 x2 x3 x4 x5 x6/\q x0 x1 x2 x3 x4 x5 x6/\r x0 x1 x2 x3 x4 x5 x6/\s x0 x1 x2 x3 x4 x5 x6/\t x0 x1 x2 x3 x4 x5 x6/\u x0 x1 x2 x3 x4 x5 x6/\v x0 x1 x2 x3 x4 x5 x6/\w x0 x1 x2 x3 x4 x5 x6/\x x0 x1 x2 x3 x4 x5 x6/\y x0 x1 x2 x3 x4 x5 x6/\z x0 x1 x2 x3 x4 x5 x6/\a x0 x1 x2 x3 x4 x5 x6)(k:∀x0 x1 x2 x3 x4 x5 x6,p x0 x1 x2 x3 x4 x5 x6->q x0 x1 x2 x3 x4 x5 x6->r x0 x1 x2 x3 x4 x5 x6->s x0 x1 x2 x3 x4 x5 x6->t x0 x1 x2 x3 x4 x5 x6->u x0 x1 x2 x3 x4 x5 x6->v x0 x1 x2 x3 x4 x5 x6->w x0 x1 x2 x3 x4 x5 x6->x x0 x1 x2 x3 x4 x5 x6->y x0 x1 x2 x3 x4 x5 x6->z x0 x1 x2 x3 x4 x5 x6->a x0 x1 x2 x3 x4 x5 x6->P):P:=h.elim fun x h=>Ti h (k x)
theorem OP{P:Prop}{α:Sort _}{β:Sort _}{γ:Sort _}{δ:Sort _}{ε:Sort _}{ζ:Sort _}{η:Sort _}{θ:Sort _}{p q r s t u v w x y z a:α->β->γ->δ->ε->ζ->η->θ->Prop}(h:∃x0,∃x1,∃x2,∃x3,∃x4,∃x5,∃x6,∃x7,p x0 x1 x2 x3 x4 x5 x6 x7/\q x0 x1 x2 x3 x4 x5 x6 x7/\r x0 x1 x2 x3 x4 x5 x6 x7/\s x0 x1 x2 x3 x4 x5 x6 x7/\t x0 x1 x2 x3 x4 x5 x6 x7/\u x0 x1 x2 x3 x4 x5 x6 x7/\v x0 x1 x2 x3 x4 x5 x6 x7/\w x0 x1 x2 x3 x4 x5 x6 x7/\x x0 x1 x2 x3 x4 x5 x6 x7/\y x0 x1 x2 x3 x4 x5 x6 x7/\z x0 x1 x2 x3 x4 x5 x6 x7/\a x0 x1 x2 x3 x4 x5 x6 x7)(k:∀x0 x1 x2 x3 x4 x5 x6 x7,p x0 x1 x2 x3 x4 x5 x6 x7->q x0 x1 x2 x3 x4 x5 x6 x7->r x0 x1 x2 x3 x4 x5 x6 x7->s x0 x1 x2 x3 x4 x5 x6 x7->t x0 x1 x2 x3 x4 x5 x6 x7->u x0 x1 x2 x3 x4 x5 x6 x7->v x0 x1 x2 x3 x4 x5 x6 x7->w x0 x1 x2 x3 x4 x5 x6 x7->x x0 x1 x2 x3 x4 x5 x6 x7->y x0 x1 x2 x3 x4 x5 x6 x7->z x0 x1 x2 x3 x4 x5 x6 x7->a x0 x1 x2 x3 x4 x5 x6 x7->P):P:=h.elim fun x h=>Tj h (k x)
theorem cl1{a m n:Nat}(h:a<=m)(e:Nat.ble m n=true):a<=n:=Nat.le_trans h (Nat.le_of_ble_eq_true e)
theorem cl3{a m d:Nat}(h:m<=d)(e:Nat.ble a m=true):a<=d:=Nat.le_trans (Nat.le_of_ble_eq_true e) h
theorem bc{P:Prop}(h:(P->False)->False):P:=Classical.byContradiction h
@[elab_as_elim] theorem az{α:Type}{a b:α}{motive:α->Prop}(h:a=b)(m:motive b):motive a:=h.symm▸m
@[elab_as_elim] theorem Je{α:Type}{a b:α}{motive:α->Prop}(h:b=a)(m:motive b):motive a:=h▸m
theorem F0{m n:Nat}(h:m<n):n-1-m<n:=Nat.lt_of_le_of_lt (Nat.sub_le _ _) (Nat.sub_lt (Nat.zero_lt_of_lt h) Nat.one_pos)
theorem F1{m n i:Nat}(h:m<n)(h':i<n)(ne:¬m=i):¬n-1-m=n-1-i:=fun e=>
 ne ((Nat.sub_sub_self (Nat.le_pred_of_lt h)).symm.trans ((congrArg (n-1 - ·) e).trans (Nat.sub_sub_self (Nat.le_pred_of_lt h'))))
theorem PT{m n:Nat}(h:m<n):n+1-1-m=n-1-m+1:=by
 cases n with
 |zero=>exact absurd h (Nat.not_lt_zero _)
 |succ k=>exact Nat.succ_sub (Nat.le_of_lt_succ h)
theorem ai{a b x y:Nat}(h:a<=b)(e:x+b<=y+a:=by omega):x<=y:=Nat.le_of_add_le_add_right (Nat.le_trans e (Nat.add_le_add_left h y))
theorem aZ{a b c d x y:Nat}(h:a<=b)(i:c<=d)(e:x+(b+d)<=y+(a+c):=by omega):x<=y:=ai (Nat.add_le_add h i) e
theorem jG{a b c d s t x y:Nat}(h:a<=b)(i:c<=d)(j:s<=t)(e:x+(b+(d+t))<=y+(a+(c+s)):=by omega):x<=y:=aZ h (Nat.add_le_add i j) e
theorem uB{a b c d s t u v x y:Nat}(h:a<=b)(i:c<=d)(j:s<=t)(k:u<=v)(e:x+(b+(d+(t+v)))<=y+(a+(c+(s+u))):=by omega):x<=y:=jG h i (Nat.add_le_add j k) e
theorem Z2{a b c d s t u v w z x y:Nat}(h:a<=b)(i:c<=d)(j:s<=t)(k:u<=v)(l:w<=z)(e:x+(b+(d+(t+(v+z))))<=y+(a+(c+(s+(u+w)))):=by omega):x<=y:=uB h i j (Nat.add_le_add k l) e
theorem fk6{a b c d s t u v w z m n x y:Nat}(h:a<=b)(i:c<=d)(j:s<=t)(k:u<=v)(l:w<=z)(o:m<=n)(e:x+(b+(d+(t+(v+(z+n)))))<=y+(a+(c+(s+(u+(w+m))))):=by omega):x<=y:=Z2 h i j k (Nat.add_le_add l o) e
theorem il{a b:Nat}(h:a=b):a<=b:=Nat.le_of_eq h
theorem xq{a b:Nat}(h:a=b):b<=a:=Nat.le_of_eq h.symm
theorem qe(m:Nat){a b:Nat}(h:a<=b):m*a<=m*b:=Nat.mul_le_mul_left m h
theorem DJ(a b:Nat):a<=a-b+b:=Nat.le_add_of_sub_le (Nat.le_refl _)
theorem nco{n:Nat}:((no_index (OfNat.ofNat n):Nat):Int)=(OfNat.ofNat n:Int):=rfl
theorem xr{a b x y:Int}(h:a<=b)(e:x+b<=y+a:=by omega):x<=y:=Int.le_of_add_le_add_right (Int.le_trans e (Int.add_le_add_left h y))
theorem y4{a b c d x y:Int}(h:a<=b)(i:c<=d)(e:x+(b+d)<=y+(a+c):=by omega):x<=y:=xr (Int.add_le_add h i) e
theorem Wu{a b c d s t x y:Int}(h:a<=b)(i:c<=d)(j:s<=t)(e:x+(b+(d+t))<=y+(a+(c+s)):=by omega):x<=y:=y4 h (Int.add_le_add i j) e
theorem fzE{a b:Int}(h:a=b):a<=b:=Int.le_of_eq h
theorem fzG{a b:Int}(h:a=b):b<=a:=Int.le_of_eq h.symm
theorem DK(s:Nat):(0:Int)<=s:=Int.natCast_nonneg s
end jB
local macro_rules |`(tactic|omega)=>`(tactic|first|with_reducible assumption|exact jB.cl1 (by with_reducible assumption) (by with_reducible_and_instances rfl)|exact jB.cl3 (by with_reducible assumption) (by with_reducible_and_instances rfl)|(simp+arith only;done)|(simp+arith only[jB.nco];done)|lia|omega (config:={}))
namespace jB
open PySem PySem.W PyProof.Rows PySem.Challenge
section
set_option maxRecDepth 100000
noncomputable abbrev pw:=pw_pb0037_01
noncomputable abbrev MK:Value:=.type "tuple"
noncomputable abbrev PU:Value:=.type "dict"
noncomputable abbrev PV:Value:=.type "code"
noncomputable abbrev k8:Value:=.type "function"
noncomputable abbrev si:Value:=.type "type"
noncomputable def tu(l:List Value):Obj:={cls:=MK,data:=.seq ⟨l⟩}
noncomputable def di(l:List DictEntry)(n:Nat):Obj:={cls:=PU,data:=.dict ⟨l⟩ n}
noncomputable def en(P:Params)(k:Str)(t:Nat)(v:Value):DictEntry:={hash:=PyData.keyHash P k,key:=.str k t,val:=v}
noncomputable def sk(k:Str)(t a:Nat):Str×Nat×Nat:=(k,t,a)
noncomputable def Jf(P:Params)(l:List (Str×Nat×Nat)):List DictEntry:=l.map fun x=>en P x.1 x.2.1 (.ref x.2.2)
noncomputable def co(n q:Str)(t l a c:Nat)(r:Nat)(b:Bool)(r2 t3:Nat)(vs:List Value)(l2 t4:Nat):Obj:=
 {cls:=PV,data:=.fields ⟨[.str n t,.str q (t+1),.str "/claim/cut.py" (t+2),.int l 0,.int a 0,.int 0 0,.int 0 0,.int c 0,.ref r,.bool b,.int 181 0,.ref r2,.none]++vs++[.int t3 0,.int l2 0,.str "/claim/cut.py" t4]⟩}
noncomputable def fr(c n:Nat)(s:Str)(t:Nat):Obj:={cls:=.type "frame",slots:=#[some (.ref c),some (.ref 3),some (.ref n),none,some (.str s t),none,some (.ref 0)]}
noncomputable def iU:List Stmt:=behindTheImports pw
noncomputable def Be:Env:={scope:=pw.main.scope,locals:=mainNs,globals:=mainNs,cells:=[],code:=.ref 13,frame:=some 14}
noncomputable def k9:Code:=.body iU Be
noncomputable def Sw(q:Str)(s:List Stmt)(g:Nat)(pm cd c:Value):Obj:=match s with
 |.FunctionDef n ar b _ _ _ sc _ _ _::_=>{cls:=c,data:=.func {name:=n,qualname:=q,params:=ar,body:=.stmts b,scope:=sc,globals:=g,closure:=[],defaults:=.none,kwdefaults:=.none,pyModule:=pm,code:=cd}}
 |_=>{cls:=.none}
noncomputable def oX:Option Stmt->List Stmt
 |some (.ClassDef _ _ _ b _ _ _ _ _ _ _)=>b
 |_=>[]
noncomputable def y5(t:BT):List (Nat×Obj)->BT
 |[]=>t
 |p::l=>y5 (t.ins p.1 p.2) l
noncomputable def Wv:List (Str×Nat×Nat):=[sk "const" 236 48,sk "obj" 241 49,sk "disc" 246 50,sk "comp" 251 51,sk "index" 256 52,sk "slice" 261 53,sk "deref" 266 54,sk "op" 271 55,sk "in" 276 56,sk "qual" 281 57,sk "conv" 286 58,sk "attrof" 291 59,sk "taskattr" 296 60,sk "accessto" 301 61,sk "subtype" 306 62,sk "new" 311 63,sk "newof" 316 64,sk "copy" 321 66,sk "arrayof" 326 67,sk "recordof" 331 68,sk "extendof" 336 69,sk "callf" 341 70,sk "dispatchf" 346 71,sk "protcall" 351 72,sk "place" 356 73,sk "placecomp" 361 74,sk "placeindex" 366 75,sk "placeslice" 371 76,sk "placederef" 376 77,sk "placevalue" 381 78,sk "target" 386 79,sk "drop" 391 80,sk "actual" 396 81,sk "actualout" 401 82,sk "jump" 406 84,sk "iffalse" 411 85,sk "iftrue" 416 86,sk "andjump" 421 87,sk "orjump" 426 88,sk "step" 431 89,sk "line" 436 90,sk "store" 441 91,sk "choose" 446 92,sk "forbegin" 451 93,sk "fornext" 456 94,sk "round" 461 95,sk "raise" 466 96,sk "result" 471 97,sk "block" 476 98,sk "arm" 481 99,sk "endblock" 486 100,sk "pack" 491 102,sk "endpack" 496 103,sk "endsub" 501 104,sk "endbody" 506 105,sk "endaccept" 511 106,sk "endentry" 516 107,sk "enddecls" 521 108,sk "endvalue" 526 109,sk "refuse" 531 110,sk "sub" 536 111,sk "callp" 541 112,sk "dispatchp" 546 113,sk "begincell" 551 114,sk "initcell" 556 115,sk "firstcell" 561 116,sk "laysubtype" 566 117,sk "laytype" 571 118,sk "laysub" 576 120,sk "laybody" 581 121,sk "layprot" 586 122,sk "layplace" 591 123,sk "nowait" 596 124,sk "entrycall" 601 125,sk "trycall" 606 126,sk "accept" 611 127,sk "beginaccept" 616 128,sk "open" 621 129,sk "openaccept" 626 130,sk "opendelay" 631 131,sk "openend" 636 132,sk "select" 641 133,sk "delay" 646 134,sk "abort" 651 135,sk "requeue" 656 136]
noncomputable def T0(P:Params):BT:=y5 .nil [(0,boot_o_0 P),(1,boot_o_1 P),(2,boot_o_2 P),(3,boot_o_3 P),(4,boot_o_4 P),(5,boot_o_5 P),(6,boot_o_6 P),(7,boot_o_7 P),(8,boot_o_8 P),(9,boot_o_9 P),(10,boot_o_10 P),(11,tu []),(12,{cls:=.none,data:=.fields #[]}),(13,co "<module>" "<module>" 182 1 0 0 11 false 12 185 [.none,.none,.none] 1 186),(14,{cls:=.type "frame",slots:=#[some (.ref 13),some (.ref 3),some (.ref 3),none,some (.str "__main__" 164),none,some (.ref 0)]})]
noncomputable def LT1(P:Params):List (Nat×Obj):=[(15,tu [.type "Exception"]),
 (16,{cls:=.type "builtin_function_or_method",data:=.fields #[.builtin "type.__prepare__",.type "type"]}),
 (17,di [en P "__module__" 196 (.str "adacore.errors" 187),en P "__qualname__" 198 (.str "AdaError" 197),en P "__firstlineno__" 200 (.int 2 199),en P "__init__" 208 (.ref 28),en P "__static_attributes__" 210 (.ref 29)] 5),
 (18,tu []),
 (19,{cls:=.none,data:=.fields #[.int 4 0,.int 4 0,.ref 27]}),
 (20,co "AdaError" "AdaError" 191 2 0 0 18 false 19 194 [.none,.none,.none] 2 195),
 (21,fr 20 17 "adacore.errors" 187),
 (22,tu []),
 (23,{cls:=.none,data:=.fields #[]}),
 (24,tu [.str "self" 204,.str "text" 205]),
 (25,tu []),
 (26,Sw "AdaError.__init__" (oX iU[1]?) 0 .none .none .none),
 (27,co "__init__" "AdaError.__init__" 201 4 2 3 22 true 23 206 [.ref 24,.ref 25,.ref 26] 4 207),
 (28,Sw "AdaError.__init__" (oX iU[1]?) 3 (.str "adacore.errors" 187) (.ref 27) k8),
 (29,tu [.str "text" 209]),
 (30,di [en P "__module__" 196 (.str "adacore.errors" 187),en P "__firstlineno__" 200 (.int 2 199),en P "__init__" 208 (.ref 28),en P "__static_attributes__" 210 (.ref 29),en P "__weakref__" 212 (.ref 32),en P "__doc__" 213 .none] 3),
 (31,{cls:=si,data:=.cls {name:= "AdaError",bases:=[.type "Exception"],mro:=[.ref 31,.type "Exception",.type "BaseException",.type "object"],ns:=30,qualname:= "AdaError",subclasses:=[.ref 44]},slots:=#[some (.ref 15),none,some (.str "AdaError" 189),some (.str "AdaError" 197),some (.builtin "Exception.__new__"),some (.bool true)]}),
 (32,{cls:=.type "getset_descriptor",data:=.fields #[.str "__weakref__" 211,.ref 31,.builtin "ExceptionGroup.__weakref__",.none]}),
 (33,{cls:=.type "super",data:=.fields #[.ref 31,.ref 31,.ref 31]}),
 (34,{cls:=.type "builtin_function_or_method",data:=.fields #[.builtin "object.__init_subclass__",.ref 31]}),
 (35,tu [.ref 31]),
 (36,{cls:=.type "builtin_function_or_method",data:=.fields #[.builtin "type.__prepare__",.type "type"]}),
 (37,di [en P "__module__" 225 (.str "adacore.errors" 187),en P "__qualname__" 227 (.str "BadCode" 226),en P "__firstlineno__" 229 (.int 7 228),en P "__static_attributes__" 230 (.ref 42)] 4),
 (38,tu []),
 (39,{cls:=.none,data:=.fields #[]}),
 (40,co "BadCode" "BadCode" 220 7 0 0 38 false 39 223 [.none,.none,.none] 7 224),
 (41,fr 40 37 "adacore.errors" 187),
 (42,tu []),
 (43,di [en P "__module__" 225 (.str "adacore.errors" 187),en P "__firstlineno__" 229 (.int 7 228),en P "__static_attributes__" 230 (.ref 42),en P "__doc__" 231 .none] 2),
 (44,{cls:=si,data:=.cls {name:= "BadCode",bases:=[.ref 31],mro:=[.ref 44,.ref 31,.type "Exception",.type "BaseException",.type "object"],ns:=43,qualname:= "BadCode" },slots:=#[some (.ref 35),none,some (.str "BadCode" 218),some (.str "BadCode" 226),some (.builtin "Exception.__new__"),some (.bool true)]}),
 (45,{cls:=.type "super",data:=.fields #[.ref 44,.ref 44,.ref 44]}),
 (46,{cls:=.type "builtin_function_or_method",data:=.fields #[.builtin "object.__init_subclass__",.ref 44]})]
noncomputable def T1(P:Params):BT:=y5 ((((T0 P).set 2 fun _=>{cls:=.none,data:=.dict #[en P "type.__subclasses__.Exception.0" 214 (.int 31 0),en P "type.__subclasses__.Exception.n" 215 (.int 1 0)] 2}).set 3 fun _=>di [en P "__name__" 165 (.str "adacore.ops" 234),en P "__doc__" 166 .none,en P "__package__" 167 .none,en P "__loader__" 168 (.builtin "__main__.__loader__#opaque"),en P "__spec__" 169 .none,en P "__annotations__" 170 (.ref 6),en P "__builtins__" 171 (.ref 4),en P "__file__" 173 (.str "/claim/cut.py" 172),en P "__cached__" 174 .none,en P "AdaError" 217 (.ref 31),en P "BadCode" 233 (.ref 44)] 11).set 12 fun _=>{cls:=.none,data:=.fields #[.int 2 0,.int 0 0,.ref 20,.int 7 0,.int 0 0,.ref 40]}) (LT1 P)
noncomputable def Z3(P:Params):List (Nat×Obj):=[(47,di (Jf P Wv) 85),
 (48,tu [.int 0 237,.int 1 238,.str "-" 239]),
 (49,tu [.int 0 242,.int 1 243,.str "--" 244]),
 (50,tu [.int 0 247,.int 1 248,.str "-" 249]),
 (51,tu [.int 1 252,.int 1 253,.str "-" 254]),
 (52,tu [.int 1 257,.int 1 258,.str "n" 259]),
 (53,tu [.int 3 262,.int 1 263,.str "" 264]),
 (54,tu [.int 1 267,.int 1 268,.str "" 269]),
 (55,tu [.int 0 272,.int 1 273,.str "---n" 274]),
 (56,tu [.int 1 277,.int 1 278,.str "--" 279]),
 (57,tu [.int 1 282,.int 1 283,.str "-" 284]),
 (58,tu [.int 1 287,.int 1 288,.str "--" 289]),
 (59,tu [.int 1 292,.int 1 293,.str "--n" 294]),
 (60,tu [.int 0 297,.int 1 298,.str "--n" 299]),
 (61,tu [.int 1 302,.int 1 303,.str "" 304]),
 (62,tu [.int 0 307,.int 1 308,.str "-" 309]),
 (63,tu [.int 1 312,.int 1 313,.str "" 314]),
 (64,tu [.int 2 317,.int 1 318,.str "" 319]),
 (65,di (Jf P [sk "copy" 321 66,sk "arrayof" 326 67,sk "recordof" 331 68,sk "extendof" 336 69,sk "callf" 341 70,sk "dispatchf" 346 71,sk "protcall" 351 72,sk "place" 356 73,sk "placecomp" 361 74,sk "placeindex" 366 75,sk "placeslice" 371 76,sk "placederef" 376 77,sk "placevalue" 381 78,sk "target" 386 79,sk "drop" 391 80,sk "actual" 396 81,sk "actualout" 401 82]) 17),
 (66,tu [.int 1 322,.int 1 323,.str "" 324]),
 (67,tu [.int 0 327,.int 1 328,.str "---" 329]),
 (68,tu [.int 0 332,.int 1 333,.str "--n" 334]),
 (69,tu [.int 1 337,.int 1 338,.str "--n" 339]),
 (70,tu [.int 0 342,.int 1 343,.str "--n" 344]),
 (71,tu [.int 0 347,.int 1 348,.str "--n" 349]),
 (72,tu [.int 1 352,.int 1 353,.str "-n" 354]),
 (73,tu [.int 0 357,.int 1 358,.str "--" 359]),
 (74,tu [.int 1 362,.int 1 363,.str "-" 364]),
 (75,tu [.int 1 367,.int 1 368,.str "n" 369]),
 (76,tu [.int 3 372,.int 1 373,.str "" 374]),
 (77,tu [.int 1 377,.int 1 378,.str "" 379]),
 (78,tu [.int 1 382,.int 1 383,.str "" 384]),
 (79,tu [.int 1 387,.int 1 388,.str "-" 389]),
 (80,tu [.int 1 392,.int 0 393,.str "" 394]),
 (81,tu [.int 1 397,.int 1 398,.str "" 399]),
 (82,tu [.int 1 402,.int 1 403,.str "" 404]),
 (83,di (Jf P [sk "jump" 406 84,sk "iffalse" 411 85,sk "iftrue" 416 86,sk "andjump" 421 87,sk "orjump" 426 88,sk "step" 431 89,sk "line" 436 90,sk "store" 441 91,sk "choose" 446 92,sk "forbegin" 451 93,sk "fornext" 456 94,sk "round" 461 95,sk "raise" 466 96,sk "result" 471 97,sk "block" 476 98,sk "arm" 481 99,sk "endblock" 486 100]) 17),
 (84,tu [.int 0 407,.int 0 408,.str "j" 409]),
 (85,tu [.int 1 412,.int 0 413,.str "j" 414]),
 (86,tu [.int 1 417,.int 0 418,.str "j" 419]),
 (87,tu [.int 1 422,.int 0 423,.str "j" 424]),
 (88,tu [.int 1 427,.int 0 428,.str "j" 429]),
 (89,tu [.int 0 432,.int 0 433,.str "-" 434]),
 (90,tu [.int 0 437,.int 0 438,.str "-" 439]),
 (91,tu [.int 2 442,.int 0 443,.str "" 444]),
 (92,tu [.int 1 447,.int 0 448,.str "-J" 449]),
 (93,tu [.int 2 452,.int 1 453,.str "--j" 454]),
 (94,tu [.int 1 457,.int 0 458,.str "--j" 459]),
 (95,tu [.int 0 462,.int 0 463,.str "-" 464]),
 (96,tu [.int 0 467,.int 0 468,.str "-" 469]),
 (97,tu [.int 1 472,.int 0 473,.str "" 474]),
 (98,tu [.int 0 477,.int 0 478,.str "-" 479]),
 (99,tu [.int 0 482,.int 0 483,.str "-J" 484]),
 (100,tu [.int 0 487,.int 0 488,.str "" 489]),
 (101,di (Jf P [sk "pack" 491 102,sk "endpack" 496 103,sk "endsub" 501 104,sk "endbody" 506 105,sk "endaccept" 511 106,sk "endentry" 516 107,sk "enddecls" 521 108,sk "endvalue" 526 109,sk "refuse" 531 110,sk "sub" 536 111,sk "callp" 541 112,sk "dispatchp" 546 113,sk "begincell" 551 114,sk "initcell" 556 115,sk "firstcell" 561 116,sk "laysubtype" 566 117,sk "laytype" 571 118]) 17),
 (102,tu [.int 0 492,.int 0 493,.str "" 494]),
 (103,tu [.int 0 497,.int 0 498,.str "" 499]),
 (104,tu [.int 0 502,.int 0 503,.str "" 504]),
 (105,tu [.int 0 507,.int 0 508,.str "" 509]),
 (106,tu [.int 0 512,.int 0 513,.str "" 514]),
 (107,tu [.int 0 517,.int 0 518,.str "" 519]),
 (108,tu [.int 0 522,.int 0 523,.str "" 524]),
 (109,tu [.int 1 527,.int 0 528,.str "" 529]),
 (110,tu [.int 0 532,.int 1 533,.str "-" 534]),
 (111,tu [.int 0 537,.int 1 538,.str "--" 539]),
 (112,tu [.int 1 542,.int 0 543,.str "n" 544]),
 (113,tu [.int 0 547,.int 0 548,.str "--n" 549]),
 (114,tu [.int 0 552,.int 1 553,.str "-" 554]),
 (115,tu [.int 2 557,.int 0 558,.str "-" 559]),
 (116,tu [.int 1 562,.int 0 563,.str "-" 564]),
 (117,tu [.int 0 567,.int 0 568,.str "--" 569]),
 (118,tu [.int 0 572,.int 0 573,.str "-" 574]),
 (119,di (Jf P [sk "laysub" 576 120,sk "laybody" 581 121,sk "layprot" 586 122,sk "layplace" 591 123,sk "nowait" 596 124,sk "entrycall" 601 125,sk "trycall" 606 126,sk "accept" 611 127,sk "beginaccept" 616 128,sk "open" 621 129,sk "openaccept" 626 130,sk "opendelay" 631 131,sk "openend" 636 132,sk "select" 641 133,sk "delay" 646 134,sk "abort" 651 135,sk "requeue" 656 136]) 17),
 (120,tu [.int 0 577,.int 0 578,.str "-" 579]),
 (121,tu [.int 0 582,.int 0 583,.str "--" 584]),
 (122,tu [.int 0 587,.int 0 588,.str "--" 589]),
 (123,tu [.int 1 592,.int 0 593,.str "-" 594]),
 (124,tu [.int 0 597,.int 0 598,.str "" 599]),
 (125,tu [.int 1 602,.int 0 603,.str "-nn" 604]),
 (126,tu [.int 1 607,.int 0 608,.str "-nnwj" 609]),
 (127,tu [.int 0 612,.int 0 613,.str "-n-" 614]),
 (128,tu [.int 0 617,.int 0 618,.str "-" 619]),
 (129,tu [.int 0 622,.int 1 623,.str "" 624]),
 (130,tu [.int 1 627,.int 1 628,.str "--n" 629]),
 (131,tu [.int 2 632,.int 1 633,.str "--" 634]),
 (132,tu [.int 1 637,.int 1 638,.str "-" 639]),
 (133,tu [.int 1 642,.int 0 643,.str "-Jj" 644]),
 (134,tu [.int 1 647,.int 0 648,.str "-" 649]),
 (135,tu [.int 1 652,.int 0 653,.str "" 654]),
 (136,tu [.int 0 657,.int 0 658,.str "-nn-" 659])]
noncomputable def T2(P:Params):BT:=y5 ((T1 P).set 3 fun _=>di [en P "__name__" 165 (.str "adacore.ops" 234),en P "__doc__" 166 .none,en P "__package__" 167 .none,en P "__loader__" 168 (.builtin "__main__.__loader__#opaque"),en P "__spec__" 169 .none,en P "__annotations__" 170 (.ref 6),en P "__builtins__" 171 (.ref 4),en P "__file__" 173 (.str "/claim/cut.py" 172),en P "__cached__" 174 .none,en P "AdaError" 217 (.ref 31),en P "BadCode" 233 (.ref 44),en P "SHAPES" 661 (.ref 47)] 12) (Z3 P)
noncomputable abbrev ML:String:= "special-get-raises"
noncomputable abbrev uU:Option Value:=some (.ref 6)
noncomputable abbrev B0:List Frame:=[topFrame default]
noncomputable abbrev p1:Pos:=⟨9,0,9,8⟩
noncomputable abbrev p2:Pos:=⟨10,0,10,6⟩
noncomputable abbrev p3:Pos:=⟨609,0,622,87⟩
noncomputable abbrev S0(w:World)(os:OsState):SharedT:=⟨T0 w.params,15,{},#[],boot_drawn,187,os⟩
noncomputable abbrev S1(w:World)(os:OsState):SharedT:=⟨T1 w.params,47,{},#[],boot_drawn,236,os⟩
noncomputable abbrev S2(w:World)(os:OsState):SharedT:=⟨T2 w.params,137,{},#[],boot_drawn,662,os⟩
end
section
set_option maxRecDepth 100000
theorem Xg:∀(w:World) (os:OsState),topGo treeTable pw w 11 uU 12 ⟨boot_heap w.params,#[],boot_drawn,boot_toks,os⟩ (topStub pw)=some ((S0 w os).abs,⟨denote treeTable k9,k9,default,B0⟩):=fun w os=>by kernel_rfl
theorem Xh:∀(w:World) (os:OsState),segRunT treeTable pw w 11 uU 1 500 (S0 w os) (piecesOf (iU.take 4) Be k9 default B0)=some (.next,S1 w os,k9,p1):=fun w os=>by kernel_rfl
end
section
set_option maxRecDepth 100000
theorem Tn:∀(w:World) (os:OsState),segRunT treeTable pw (w.withFollow ML false) 11 uU 1 2100 (S1 w os) (piecesOf ((iU.drop 4).take 1) Be k9 p1 B0)=some (.next,S2 w os,k9,p2):=fun w os=>by kernel_rfl
theorem To:∀(w:World) (os:OsState),segRunT treeTable pw (w.withFollow ML true) 11 uU 1 2100 (S1 w os) (piecesOf ((iU.drop 4).take 1) Be k9 p1 B0)=some (.next,S2 w os,k9,p2):=fun w os=>by kernel_rfl
end
end jB
namespace jB
open PySem
section
set_option genCtorIdx false
noncomputable abbrev D:=PyData
set_option genCtorIdx true in
inductive ag where
 |d (x:D)
 |fn (f:Nat)
 |ob (k:Nat) (l:List (Str×D))
 |b (i:Nat)
 |t (i:Nat)
 |g
set_option genCtorIdx true in
inductive aL where
 |list (c:List ag) (r:List D)
 |dict (l:List (Str×ag))
 |inst (k:Nat) (l:List (Str×ag))
 |yk (x:D)
structure St where
 base:List (Option aL)
 temps:List aL
 gen:Nat
noncomputable abbrev ak:=List (Str×ag)
noncomputable def PW:List Nat->List Nat->Bool
 |[],[]=>true
 |x::xs,y::ys=>match Nat.beq x y with
  |true=>PW xs ys
  |false=>false
 |[],_::_=>false
 |_::_,[]=>false
noncomputable def eZ(x y:Str):Bool:=PW x.cps.toList y.cps.toList
noncomputable def dE{α:Type}(x:Str):List (Str×α)->Option α
 |[]=>none
 |p::l=>match eZ p.1 x with
  |true=>some p.2
  |false=>dE x l
noncomputable def i9{α:Type}(x:Str)(v:α):List (Str×α)->List (Str×α)
 |[]=>[(x,v)]
 |p::l=>match eZ p.1 x with
  |true=>(p.1,v)::l
  |false=>p::i9 x v l
set_option genCtorIdx true in
inductive Op where
 |add|sub|mul|fdiv|mod|pow
set_option genCtorIdx true in
inductive CO where
 |eq|ne|lt|gt|is|nP|isin|yl
inductive Place where
 |fz|A6|base (l:List Nat)
inductive E where
 |c (x:D)
 |neg (i:Nat)
 |var (x:Str)
 |oY (f:Nat)
 |OQ (g:Nat)
 |attr (o:E) (a:Str)
 |sub (o i:E)
 |DM (o:E) (lo hi:Option E)
 |Bf (o:E) (n:E)
 |bin (op:Op) (l r:E)
 |cmp (op:CO) (l r:E)
 |cx (l r:E)
 |A7 (l r:E)
 |ite (c t e:E)
 |tup (l:List E)
 |lst (p:Place) (l:List E)
 |G9 (p:Place) (ks:List Str) (l:List E)
 |call (f:Nat) (l:List E)
 |tw (e:E) (l:List E)
 |new (k:Nat) (slot:Nat) (l:List E)
 |gM (e:E)
 |len (e:E)
 |sg (e:E)
 |str (e:E)
 |sj (e:E)
 |oZ (e:E)
 |append (o x:E)
 |extend (o x:E)
 |pop (o:E)
 |update (o x:E)
 |get (o k d:E)
 |comp (elt:E) (tg:Str) (it:E) (cond:Option E) (fv:List Str)
inductive Tg where
 |x (x:Str)
 |attr (o:E) (a:Str)
 |sub (o i:E)
 |cut (o n:E)
 |tup (l:List Str)
 |atts (l:List (E×Str))
inductive T where
 |expr (e:E)
 |pass
 |cont
 |ret (e:Option E)
 |asg (t:Tg) (e:E)
 |Mw (xs:List Str) (e:E)
 |aug (x:Str) (op:Op) (e:E)
 |DN (o:E) (a:Str) (op:Op) (e:E)
 |fL (c:E) (a b:List T)
 |PY (c:E) (b:List T)
 |gN (tg:List Str) (it:E) (b:List T)
 |no
set_option genCtorIdx true in
inductive Fl where
 |next|cont|ret (v:ag)
noncomputable abbrev KV:=ag->St->Prop
noncomputable abbrev Ev:=E->ak->St->KV->Prop
noncomputable abbrev Cl:=Nat->List ag->St->KV->Prop
noncomputable def A8(i:Nat):Bool:=match i with
 |8=>true
 |15=>true
 |_=>false
noncomputable def ku:ag->Bool
 |.b i=>A8 i
 |_=>false
noncomputable def iM:ak->Bool
 |[]=>false
 |p::l=>ku p.2||iM l
noncomputable def la(i:Nat):ag->Bool
 |.b j=> !Nat.beq i j
 |_=>true
noncomputable def kO(i:Nat):List ag->Bool
 |[]=>true
 |v::l=>la i v&&kO i l
noncomputable def jZ(i:Nat):List (Str×ag)->Bool
 |[]=>true
 |p::l=>la i p.2&&jZ i l
noncomputable def uV(i:Nat):aL->Bool
 |.list c _=>kO i c
 |.dict l=>jZ i l
 |.inst _ l=>jZ i l
 |.yk _=>true
noncomputable def lX(i:Nat):List (Option aL)->Bool
 |[]=>true
 |none::l=>lX i l
 |some o::l=>uV i o&&lX i l
noncomputable def j9:ag->Bool
 |.t _=>false
 |_=>true
noncomputable def jd:List ag->Bool
 |[]=>true
 |v::l=>j9 v&&jd l
noncomputable def kG:List (Str×ag)->Bool
 |[]=>true
 |p::l=>j9 p.2&&kG l
noncomputable def DO:aL->Bool
 |.list c _=>jd c
 |.dict l=>kG l
 |.inst _ l=>kG l
 |.yk _=>false
noncomputable def xC(v:ag)(σ aF:St)(P:Prop):Prop:=match ku v with
 |true=>aF.gen=σ.gen/\P
 |false=>P
noncomputable def pK(ê:ak)(σ aF:St)(P:Prop):Prop:=match iM ê with
 |true=>aF.gen=σ.gen/\P
 |false=>P
noncomputable def aq{α:Type}:List α->Nat->Option α
 |[],_=>none
 |x::_,0=>some x
 |_::l,n+1=>aq l n
noncomputable def setAt{α:Type}:List α->Nat->α->List α
 |[],_,_=>[]
 |_::l,0,y=>y::l
 |x::l,n+1,y=>x::setAt l n y
noncomputable def St.nU(σ:St)(i:Nat):Option aL:=match aq σ.base i with
 |some (some o)=>some o
 |_=>none
noncomputable def St.lg(σ:St)(i:Nat)(o:Option aL):St:={σ with base:=setAt σ.base i o}
noncomputable def St.Bg(σ:St)(i:Nat)(o:aL):St:={σ with temps:=setAt σ.temps i o}
noncomputable def St.obj(σ:St):ag->Option aL
 |.b i=>σ.nU i
 |.t i=>aq σ.temps i
 |_=>none
noncomputable def St.put(σ:St)(v:ag)(o:aL):St:=match v with
 |.b i=>σ.lg i (some o)
 |.t i=>σ.Bg i o
 |_=>σ
theorem nf{P:Prop}(h:False):P:=h.elim
theorem Bh{α:Type}{a:α}{P:Prop}(h:none=some a):P:=nomatch h
noncomputable def jI(v:ag)(K:D->Prop):Prop:=by
 induction v using ag.casesOn with
 |d x=>exact K x
 |_=>exact False
@[elab_as_elim] theorem cN{motive:ag->Prop}{v:ag}{K:D->Prop}(h:jI v K)(H:∀x,K x->motive (.d x)):motive v:=by
 revert h
 induction v using ag.casesOn with
 |d x=>exact H x
 |_=>exact nf
noncomputable def Jg(v:ag)(K:Nat->Prop):Prop:=by
 induction v using ag.casesOn with
 |b i=>exact K i
 |_=>exact False
@[elab_as_elim] theorem tA{motive:ag->Prop}{v:ag}{K:Nat->Prop}(h:Jg v K)(H:∀i,K i->motive (.b i)):motive v:=by
 revert h
 induction v using ag.casesOn with
 |b i=>exact H i
 |_=>exact nf
noncomputable def Ww(v:ag)(K:Nat->Prop):Prop:=by
 induction v using ag.casesOn with
 |t i=>exact K i
 |_=>exact False
@[elab_as_elim] theorem Jr{motive:ag->Prop}{v:ag}{K:Nat->Prop}(h:Ww v K)(H:∀i,K i->motive (.t i)):motive v:=by
 revert h
 induction v using ag.casesOn with
 |t i=>exact H i
 |_=>exact nf
noncomputable def dI(x:PyData)(K:Int->Prop):Prop:=by
 induction x using PyData.casesOn with
 |int i=>exact K i
 |_=>exact False
@[elab_as_elim] theorem t9{motive:PyData->Prop}{x:PyData}{K:Int->Prop}(h:dI x K)(H:∀i,K i->motive (.int i)):motive x:=by
 revert h
 induction x using PyData.casesOn with
 |int i=>exact H i
 |_=>exact nf
noncomputable def dS(x:PyData)(K:Str->Prop):Prop:=by
 induction x using PyData.casesOn with
 |str s=>exact K s
 |_=>exact False
@[elab_as_elim] theorem Js{motive:PyData->Prop}{x:PyData}{K:Str->Prop}(h:dS x K)(H:∀s,K s->motive (.str s)):motive x:=by
 revert h
 induction x using PyData.casesOn with
 |str s=>exact H s
 |_=>exact nf
noncomputable def dB(x:PyData)(K:Bool->Prop):Prop:=by
 induction x using PyData.casesOn with
 |bool b=>exact K b
 |_=>exact False
@[elab_as_elim] theorem PZ{motive:PyData->Prop}{x:PyData}{K:Bool->Prop}(h:dB x K)(H:∀b,K b->motive (.bool b)):motive x:=by
 revert h
 induction x using PyData.casesOn with
 |bool b=>exact H b
 |_=>exact nf
noncomputable def dT(x:PyData)(K:List D->Prop):Prop:=by
 induction x using PyData.casesOn with
 |tuple l=>exact K l
 |_=>exact False
@[elab_as_elim] theorem Jt{motive:PyData->Prop}{x:PyData}{K:List D->Prop}(h:dT x K)(H:∀l,K l->motive (.tuple l)):motive x:=by
 revert h
 induction x using PyData.casesOn with
 |tuple l=>exact H l
 |_=>exact nf
noncomputable def dL(x:PyData)(K:List D->Prop):Prop:=by
 induction x using PyData.casesOn with
 |list l=>exact K l
 |_=>exact False
@[elab_as_elim] theorem Ju{motive:PyData->Prop}{x:PyData}{K:List D->Prop}(h:dL x K)(H:∀l,K l->motive (.list l)):motive x:=by
 revert h
 induction x using PyData.casesOn with
 |list l=>exact H l
 |_=>exact nf
noncomputable def mL(o:aL)(K:List ag->List D->Prop):Prop:=by
 induction o using aL.casesOn with
 |list c r=>exact K c r
 |_=>exact False
@[elab_as_elim] theorem Tp{motive:aL->Prop}{o:aL}{K:List ag->List D->Prop}(h:mL o K)(H:∀c r,K c r->motive (.list c r)):motive o:=by
 revert h
 induction o using aL.casesOn with
 |list c r=>exact H c r
 |_=>exact nf
noncomputable def mD(o:aL)(K:List (Str×ag)->Prop):Prop:=by
 induction o using aL.casesOn with
 |dict l=>exact K l
 |_=>exact False
@[elab_as_elim] theorem Xi{motive:aL->Prop}{o:aL}{K:List (Str×ag)->Prop}(h:mD o K)(H:∀l,K l->motive (.dict l)):motive o:=by
 revert h
 induction o using aL.casesOn with
 |dict l=>exact H l
 |_=>exact nf
noncomputable def mI(o:aL)(K:Nat->List (Str×ag)->Prop):Prop:=by
 induction o using aL.casesOn with
 |inst k l=>exact K k l
 |_=>exact False
@[elab_as_elim] theorem Xj{motive:aL->Prop}{o:aL}{K:Nat->List (Str×ag)->Prop}(h:mI o K)(H:∀k l,K k l->motive (.inst k l)):motive o:=by
 revert h
 induction o using aL.casesOn with
 |inst k l=>exact H k l
 |_=>exact nf
noncomputable def zN(k:Int)(K:Nat->Prop):Prop:=by
 induction k using Int.casesOn with
 |ofNat n=>exact K n
 |_=>exact False
@[elab_as_elim] theorem Jv{motive:Int->Prop}{k:Int}{K:Nat->Prop}(h:zN k K)(H:∀n,K n->motive (.ofNat n)):motive k:=by
 revert h
 induction k using Int.casesOn with
 |ofNat n=>exact H n
 |_=>exact nf
noncomputable def Xk(v:ag)(K:Nat->Prop):Prop:=by
 induction v using ag.casesOn with
 |fn f=>exact K f
 |_=>exact False
@[elab_as_elim] theorem Tq{motive:ag->Prop}{v:ag}{K:Nat->Prop}(h:Xk v K)(H:∀f,K f->motive (.fn f)):motive v:=by
 revert h
 induction v using ag.casesOn with
 |fn f=>exact H f
 |_=>exact nf
noncomputable def dN(x:PyData)(K:Prop):Prop:=by
 induction x using PyData.casesOn with
 |none=>exact K
 |_=>exact False
@[elab_as_elim] theorem P4{motive:PyData->Prop}{x:PyData}{K:Prop}(h:dN x K)(H:K->motive .none):motive x:=by
 revert h
 induction x using PyData.casesOn with
 |none=>exact H
 |_=>exact nf
noncomputable def ka{α:Type}(l:List α)(K:Prop):Prop:=match l with
 |[]=>K
 |_::_=>False
@[elab_as_elim] theorem gW{α:Type}{motive:List α->Prop}{l:List α}{K:Prop}(h:ka l K)(H:K->motive []):motive l:=by
 revert h
 induction l using List.casesOn with
 |nil=>exact H
 |cons x l=>exact nf
noncomputable def oS{α:Type}(o:Option α)(K:α->Prop):Prop:=match o with
 |some x=>K x
 |none=>False
theorem lL{α:Type}{P:Prop}{o:Option α}{K:α->Prop}(h:oS o K)(H:∀x,o=some x->K x->P):P:=by
 revert h H
 induction o using Option.casesOn with
 |some x=>exact fun h H=>H x rfl h
 |none=>exact fun h _=>nf h
noncomputable def oL(o:Option aL)(K:List ag->List D->Prop):Prop:=oS o fun o=>mL o K
noncomputable def oD(o:Option aL)(K:List (Str×ag)->Prop):Prop:=oS o fun o=>mD o K
noncomputable def oI(o:Option aL)(K:Nat->List (Str×ag)->Prop):Prop:=oS o fun o=>mI o K
theorem qK{P:Prop}{o:Option aL}{K:List ag->List D->Prop}(h:oL o K)(H:∀c r,o=some (.list c r)->K c r->P):P:=lL h fun x e h=>Tp (motive:=fun x=>o=some x->P) h (fun c r h e=>H c r e h) e
theorem Ha{P:Prop}{o:Option aL}{K:List (Str×ag)->Prop}(h:oD o K)(H:∀l,o=some (.dict l)->K l->P):P:=lL h fun x e h=>Xi (motive:=fun x=>o=some x->P) h (fun l h e=>H l e h) e
theorem Tr{P:Prop}{o:Option aL}{K:Nat->List (Str×ag)->Prop}(h:oI o K)(H:∀k l,o=some (.inst k l)->K k l->P):P:=lL h fun x e h=>Xj (motive:=fun x=>o=some x->P) h (fun k l h e=>H k l e h) e
noncomputable def OR(b:Bool)(K:Prop):Prop:=match b with
 |true=>K
 |false=>False
theorem uW{P K:Prop}{b:Bool}(h:OR b K)(H:b=true->K->P):P:=by
 revert h H
 induction b using Bool.casesOn with
 |true=>exact fun h H=>H rfl h
 |false=>exact fun h _=>nf h
noncomputable def Sx(b:Bool)(K:Prop):Prop:=match b with
 |true=>False
 |false=>K
theorem Bi{P K:Prop}{b:Bool}(h:Sx b K)(H:b=false->K->P):P:=by
 revert h H
 induction b using Bool.casesOn with
 |true=>exact fun h _=>nf h
 |false=>exact fun h H=>H rfl h
noncomputable def fzO(o:aL)(K:List D->Prop)(L:D->Prop):Prop:=by
 induction o using aL.casesOn with
 |list c r=>exact ka c (K r)
 |yk x=>exact L x
 |_=>exact False
noncomputable def fz(v:ag)(σ:St)(K:KV):Prop:=by
 induction v using ag.casesOn with
 |t i=>exact oS (aq σ.temps i) fun o=>fzO o (fun r=>K (.d (.list r.reverse)) (σ.Bg i (.yk (.list r.reverse)))) fun x=>K (.d x) σ
 |d x=>exact K (.d x) σ
 |fn f=>exact K (.fn f) σ
 |ob k l=>exact K (.ob k l) σ
 |b i=>exact K (.b i) σ
 |g=>exact K .g σ
noncomputable def Xl(o:aL)(i:Nat):ag:=by
 induction o using aL.casesOn with
 |yk x=>exact .d x
 |_=>exact .t i
noncomputable def res(σ:St)(v:ag):ag:=match v with
 |.t i=>match aq σ.temps i with
  |some o=>Xl o i
  |none=>.t i
 |v=>v
noncomputable def qL:List ag->Option (List D)
 |[]=>some []
 |.d x::l=>match qL l with
  |some r=>some (x::r)
  |none=>none
 |_::_=>none
noncomputable def ah:Nat:=1000000
noncomputable def MM(op:Op)(x y:D)(K:D->Prop):Prop:=match op,x,y with
 |.add,.int a,.int b=>K (.int (a+b))
 |.add,.str a,.str b=>a.length+b.length<=ah/\K (.str (a++b))
 |.add,.tuple a,.tuple b=>a.length+b.length<=ah/\K (.tuple (a++b))
 |.add,.list a,.list b=>a.length+b.length<=ah/\K (.list (a++b))
 |.sub,.int a,.int b=>K (.int (a-b))
 |.mul,.int a,.int b=>(a.natAbs<=ah/\b.natAbs<=ah)/\K (.int (a*b))
 |.fdiv,.int a,.int b=>(0<b/\a.natAbs<=ah/\b.natAbs<=ah)/\K (.int (Int.fdiv a b))
 |.mod,.int a,.int b=>0<b/\K (.int (Int.fmod a b))
 |.pow,.int a,.int b=>(a=3/\0<=b/\b<12)/\K (.int (a ^ b.toNat))
 |_,_,_=>False
noncomputable def Hb(op:Op)(a b:Int)(K:Int->Prop):Prop:=match op with
 |.add=>K (a+b)
 |.sub=>K (a-b)
 |_=>False
noncomputable def isNone:D->Bool
 |.none=>true
 |_=>false
noncomputable def y6(x:Str):List D->Option Bool
 |[]=>some false
 |.str y::l=>match eZ x y with
  |true=>match y6 x l with|some _=>some true|none=>none
  |false=>y6 x l
 |_::_=>none
noncomputable def Hc(x:Int):List D->Option Bool
 |[]=>some false
 |.int y::l=>match Hc x l with|some b=>some (decide (x=y)||b)|none=>none
 |_::_=>none
noncomputable def ym{α:Type}(x:Str):List (Str×α)->Bool
 |[]=>false
 |p::l=>eZ p.1 x||ym x l
noncomputable def isNil{α:Type}:List α->Bool
 |[]=>true
 |_::_=>false
noncomputable def Wx(v w:ag)(σ:St)(K:Bool->Prop):Prop:=match v,w with
 |.d (.str a),.d (.str b)=>K (eZ a b)
 |.d (.int a),.d (.int b)=>K (decide (a=b))
 |.d .none,.d .none=>K true
 |.d .none,.d (.str _)=>K false
 |.d (.str _),.d .none=>K false
 |.d .none,.d (.int _)=>K false
 |.d (.int _),.d .none=>K false
 |.d (.int _),.d (.str _)=>K false
 |.d (.str _),.d (.int _)=>K false
 |.d (.tuple a),.d (.tuple [])=>K (isNil a)
 |.d (.list a),.d (.list [])=>K (isNil a)
 |.b i,.b j=>oL (σ.nU i) fun c r=>ka c (oL (σ.nU j) fun c' t=>ka c' (∃xs ys:List Str,r=xs.map PyData.str/\t=ys.map PyData.str/\K (decide (xs=ys))))
 |_,_=>False
noncomputable def Wy(v w:ag)(σ:St)(K:Bool->Prop):Prop:=match v,w with
 |.d (.str a),.d (.str b)=>K (!eZ a b)
 |.d .none,.d (.str _)=>K true
 |.d (.int a),.d (.int b)=>K (!decide (a=b))
 |.d (.list a),.d (.list [])=>K (!isNil a)
 |.b i,.d (.list [])=>oL (σ.nU i) fun c r=>K (!(isNil c&&isNil r))
 |_,_=>False
noncomputable def inT(x:PyData)(l:List D)(K:Bool->Prop):Prop:=by
 induction x using PyData.casesOn with
 |str s=>exact oS (y6 s l) K
 |int n=>exact oS (Hc n l) K
 |_=>exact False
noncomputable def OS(tab:List (Str×D))(v w:ag)(σ:St)(K:Bool->Prop):Prop:=by
 induction w using ag.casesOn with
 |d y=>exact dT y fun l=>jI v fun x=>inT x l K
 |b i=>exact jI v fun x=>dS x fun s=>oD (σ.nU i) fun l=>K (ym s l)
 |g=>exact jI v fun x=>dS x fun s=>K (ym s tab)
 |_=>exact False
noncomputable def Ts(tab:List (Str×D))(v w:ag)(K:Bool->Prop):Prop:=by
 induction w using ag.casesOn with
 |d y=>exact dT y fun l=>jI v fun x=>dS x fun s=>oS (y6 s l) fun b=>K (!b)
 |g=>exact jI v fun x=>dS x fun s=>K (!ym s tab)
 |_=>exact False
noncomputable def MN(tab:List (Str×D))(op:CO)(v w:ag)(σ:St)(K:Bool->Prop):Prop:=match op with
 |.eq=>Wx v w σ K
 |.ne=>Wy v w σ K
 |.lt=>jI v fun x=>dI x fun a=>jI w fun y=>dI y fun b=>K (decide (a<b))
 |.gt=>jI v fun x=>dI x fun a=>jI w fun y=>dI y fun b=>K (decide (a>b))
 |.is=>jI w fun y=>dN y (jI v fun x=>K (isNone x))
 |.nP=>jI w fun y=>dN y (jI v fun x=>K (!isNone x))
 |.isin=>OS tab v w σ K
 |.yl=>Ts tab v w K
noncomputable def idx{α:Type}(l:List α)(k:Int):Option α:=match k with
 |.ofNat n=>aq l n
 |.negSucc _=>none
noncomputable def items(c:List ag)(r:List D):List ag:=(c++r.map ag.d).reverse
noncomputable def lastOf(c:List ag)(r:List D):Option ag:=match c with
 |x::_=>some x
 |[]=>match r with
  |y::_=>some (.d y)
  |[]=>none
noncomputable def small(m:Nat)(P:Prop):Prop:=match Nat.ble m 99 with
 |true=>P
 |false=>m<=ah/\P
theorem aj{m:Nat}{P:Prop}(h:m<=ah)(p:P):small m P:=by
 unfold small;cases Nat.ble m 99<;>first|exact p|exact⟨h,p⟩
theorem dv{m:Nat}{P:Prop}(h:small m P):m<=ah/\P:=by
 unfold small at h;split at h
 ·rename_i e;exact⟨Nat.le_trans (Nat.le_of_ble_eq_true e) (by decide),h⟩
 ·exact h
noncomputable def Jw(k:Int)(P:Prop):Prop:=match k with
 |.ofNat m=>small m P
 |.negSucc _=>P
noncomputable def uX(tab:List (Str×D))(o i:ag)(σ:St)(K:ag->Prop):Prop:=match o,i with
 |.g,.d (.str x)=>match dE x tab with|some v=>K (.d v)|none=>False
 |.d (.tuple l),.d (.int k)=>match idx l k with|some x=>Jw k (K (.d x))|none=>False
 |.d (.list l),.d (.int k)=>match idx l k with|some x=>Jw k (K (.d x))|none=>False
 |.d (.str x),.d (.int k)=>match k with
  |.ofNat n=>match aq x.cps.toList n with|some c=>small n (K (.d (.str ⟨⟨[c]⟩⟩)))|none=>False
  |.negSucc _=>False
 |.b n,.d (.int k)=>match σ.nU n with
  |some (.list c r)=>match k with
   |.ofNat m=>match aq (items c r) m with|some x=>small m (K x)|none=>False
   |.negSucc 0=>match lastOf c r with|some x=>K x|none=>False
   |.negSucc _=>False
  |_=>False
 |.t n,.d (.int k)=>match aq σ.temps n with
  |some (.list c r)=>match k with
   |.ofNat m=>match aq (items c r) m with|some x=>small m (K x)|none=>False
   |.negSucc 0=>match lastOf c r with|some x=>K x|none=>False
   |.negSucc _=>False
  |_=>False
 |.b n,.d (.str x)=>match σ.nU n with
  |some (.dict l)=>match dE x l with|some v=>K v|none=>False
  |_=>False
 |_,_=>False
noncomputable def Jx(v:Option ag)(K:Option Nat->Prop):Prop:=match v with
 |none=>K none
 |some v=>jI v fun x=>dI x fun k=>zN k fun n=>n<=ah/\K (some n)
noncomputable def Tt(l:List D)(lo hi:Option Nat)(K:ag->Prop):Prop:=oS lo fun a=>by
 induction hi using Option.casesOn with
 |none=>exact(1<=a/\a<=l.length/\l.length<=ah)/\K (.d (.tuple (l.drop a)))
 |some b=>exact(1<=a/\a<=b/\b<=l.length/\l.length<=ah)/\K (.d (.tuple ((l.take b).drop a)))
noncomputable def Tu(l:List D)(lo hi:Option Nat)(K:ag->Prop):Prop:=by
 induction lo using Option.casesOn with
 |none=>exact oS hi fun b=>l.length<=ah/\K (.d (.list (l.take b)))
 |some a=>
  induction hi using Option.casesOn with
  |none=>exact l.length<=ah/\K (.d (.list (l.drop a)))
  |some b=>exact(a<=b/\b<=l.length/\l.length<=ah)/\K (.d (.list ((l.take b).drop a)))
noncomputable def P8(o:ag)(lo hi:Option Nat)(K:ag->Prop):Prop:=jI o fun x=>by
 induction x using PyData.casesOn with
 |tuple l=>exact Tt l lo hi K
 |list l=>exact Tu l lo hi K
 |_=>exact False
noncomputable def pa:List Nat->St->Option Nat
 |[],_=>none
 |i::l,σ=>match aq σ.base i with
  |some none=>some i
  |_=>pa l σ
noncomputable def kx:List ag->Bool
 |[]=>true
 |v::l=> !ku v&&kx l
noncomputable def Z4{α:Type}(v:ag)(K:D->Option α):Option α:=by
 induction v using ag.casesOn with
 |d x=>exact K x
 |_=>exact none
theorem Jy{α:Type}{o:α}{motive:ag->Prop}{v:ag}{K:D->Option α}(h:Z4 v K=some o)(H:∀x,K x=some o->motive (.d x)):motive v:=by
 revert h
 induction v using ag.casesOn with
 |d x=>exact H x
 |_=>exact Bh
theorem DP{α β:Type}{P:Prop}{x:β}{o:Option α}{f:α->β}(h:o.map f=some x)(H:∀a,o=some a->f a=x->P):P:=by
 revert h H
 induction o using Option.casesOn with
 |none=>exact fun h _=>Bh h
 |some a=>exact fun h H=>H a rfl (Option.some.inj h)
noncomputable def pX:List (Str×ag)->Option (List (Str×D))
 |[]=>some []
 |p::l=>Z4 p.2 fun x=>(pX l).map ((p.1,x)::·)
noncomputable def Tv(o:aL)(K:aL->Prop):Prop:=by
 induction o using aL.casesOn with
 |list c r=>exact OR (kx c) (K (.list c r))
 |dict l=>exact oS (pX l) fun _=>K (.dict l)
 |_=>exact False
noncomputable def Sy(b:Bool)(P R:Prop):Prop:=match b with
 |true=>P
 |false=>R
noncomputable def pL(p:Place)(o:aL)(ê:ak)(σ:St)(K:KV):Prop:=by
 induction p using Place.casesOn with
 |fz=>exact mL o fun c r=>ka c (K (.d (.list r.reverse)) σ)
 |A6=>exact Tv o fun o=>K (.t σ.temps.length) {σ with temps:=σ.temps++[o]}
 |base l=>exact oS (pa l σ) fun i=>OR (DO o) (Sy (A8 i) (Sx (iM ê) (K (.b i) {σ.lg i (some o)with gen:=σ.gen+1})) (K (.b i) {σ.lg i (some o)with gen:=σ.gen}))
noncomputable def Jh(vs:List ag):aL:=match qL vs with
 |some ds=>.list [] ds.reverse
 |none=>.list vs.reverse []
noncomputable def P9(v:ag)(ê:ak)(σ:St)(K:KV):Prop:=Jg v fun i=>OR (A8 i) (Sx (iM ê) (OR (lX i σ.base) (oS (σ.nU i) fun o=>by
 induction o using aL.casesOn with
 |list c r=>exact ka c (K (.d (.list r.reverse)) {σ.lg i none with gen:=σ.gen+1})
 |inst k l=>exact oS (pX l) fun l'=>K (.ob k l') {σ.lg i none with gen:=σ.gen+1}
 |_=>exact False)))
noncomputable def Qa(v:ag)(σ:St)(K:Int->Prop):Prop:=by
 induction v using ag.casesOn with
 |d x=>
  induction x using PyData.casesOn with
  |list l=>exact small l.length (K (l.length:Int))
  |tuple l=>exact small l.length (K (l.length:Int))
  |str x=>exact small x.length (K (x.length:Int))
  |_=>exact False
 |b i=>exact oL (σ.nU i) fun c r=>small (c.length+r.length) (K ((c.length+r.length:Nat):Int))
 |t i=>exact oL (aq σ.temps i) fun c r=>small (c.length+r.length) (K ((c.length+r.length:Nat):Int))
 |_=>exact False
noncomputable def Bj(v:ag)(a:Str)(σ:St)(K:ag->Prop):Prop:=by
 induction v using ag.casesOn with
 |b i=>exact oI (σ.nU i) fun _ l=>oS (dE a l) K
 |ob k l=>exact oS (dE a l) fun w=>K (.d w)
 |_=>exact False
noncomputable def Bl(v:ag)(σ:St)(P:Prop):Prop:=oL (σ.obj v) fun _ _=>P
noncomputable def Bm(v:ag)(σ:St)(P:Prop):Prop:=oD (σ.obj v) fun _=>P
noncomputable def Xm(x:ag)(r:List D)(K:aL->Prop):Prop:=by
 induction x using ag.casesOn with
 |d y=>exact K (.list [] (y::r))
 |fn f=>exact K (.list [.fn f] r)
 |ob k l=>exact K (.list [.ob k l] r)
 |b i=>exact K (.list [.b i] r)
 |g=>exact K (.list [.g] r)
 |t i=>exact False
noncomputable def Xn(c:List ag)(r:List D)(x:ag)(K:aL->Prop):Prop:=c.length+r.length<ah/\match c with
 |[]=>Xm x r K
 |z::c=>OR (j9 x) (K (.list (x::z::c) r))
noncomputable def y7(o x:ag)(σ:St)(K:St->Prop):Prop:=by
 induction o using ag.casesOn with
 |b i=>exact oL (σ.nU i) fun c r=>Xn c r x fun o=>K (σ.lg i (some o))
 |t i=>exact oL (aq σ.temps i) fun c r=>ka c (jI x fun y=>0+r.length<ah/\K (σ.Bg i (.list [] (y::r))))
 |_=>exact False
noncomputable def y8(o x:ag)(σ:St)(K:St->Prop):Prop:=Ww o fun i=>jI x fun x=>dL x fun l=>oL (aq σ.temps i) fun c r=>ka c (r.length+l.length<ah/\K (σ.Bg i (.list [] (l.reverse++r))))
noncomputable def sm:List (Str×ag)->List (Str×ag)->List (Str×ag)
 |l,[]=>l
 |l,p::m=>sm (i9 p.1 p.2 l) m
noncomputable def Qb(o x:ag)(σ:St)(K:St->Prop):Prop:=Jg o fun i=>Jg x fun j=>oD (σ.nU i) fun l=>oD (σ.nU j) fun m=>(i≠j/\l.length+m.length<=1000)/\K (σ.lg i (some (.dict (sm l m))))
noncomputable def Tw(c:List ag)(r:List D)(K:ag->aL->Prop):Prop:=match c with
 |x::c'=>small (c'.length+r.length) (K x (.list c' r))
 |[]=>match r with
  |y::r'=>small r'.length (K (.d y) (.list [] r'))
  |[]=>False
noncomputable def Qc(o:ag)(σ:St)(K:ag->St->Prop):Prop:=Jg o fun i=>oL (σ.nU i) fun c r=>Tw c r fun x o=>K x (σ.lg i (some o))
noncomputable def Qd(v:ag)(K:D->Prop):Prop:=jI v fun x=>by
 induction x using PyData.casesOn with
 |str x=>exact K (.str x)
 |int i=>exact i.natAbs<=ah/\K (.str (PyData.int i).shown)
 |bool b=>exact K (.str (PyData.bool b).shown)
 |list l=>exact((PyData.list l).showable=true/\(PyData.list l).hasDict=false/\(PyData.list l).depth<=20/\(PyData.list l).shown.length<=ah)/\K (.str (PyData.list l).shown)
 |tuple l=>exact((PyData.tuple l).showable=true/\(PyData.tuple l).hasDict=false/\(PyData.tuple l).depth<=20/\(PyData.tuple l).shown.length<=ah)/\K (.str (PyData.tuple l).shown)
 |_=>exact False
noncomputable def eL(k:Nat):List D:=(List.range k).map fun(n:Nat)=>PyData.int (n:Int)
noncomputable def Jz(e:E):Option E:=by
 induction e using E.casesOn with
 |sg e=>exact some e
 |_=>exact none
noncomputable def je(w:Option (Nat×List D))(σ:St)(P:Prop):Prop:=match w with
 |none=>P
 |some (i,r)=>σ.nU i=some (.list [] r)/\P
noncomputable def envOf(fv:List Str)(ê:ak):ak:=match fv with
 |[]=>[]
 |x::l=>match dE x ê with
  |some v=>(x,v)::envOf l ê
  |none=>envOf l ê
noncomputable def uY(v:ag)(P:Prop):Prop:=match ku v with
 |false=>P
 |true=>False
noncomputable def n0(ê:ak)(P:Prop):Prop:=match iM ê with
 |false=>P
 |true=>False
structure Own where
 tab:List (Str×D)
 tup:D
 init:Nat->Nat
noncomputable def n4(w:ag)(a:Str)(v:ag)(σ:St)(K:St->Prop):Prop:=Jg w fun i=>oI (σ.nU i) fun k l=>OR (j9 v) (Sx (ku v) (l.length<=100/\K (σ.lg i (some (.inst k (i9 a v l))))))
noncomputable def Bn(o i v:ag)(σ:St)(K:St->Prop):Prop:=Jg o fun n=>jI i fun z=>by
 induction z using PyData.casesOn with
 |str x=>exact oD (σ.nU n) fun l=>jI v fun y=>l.length<=100/\K (σ.lg n (some (.dict (i9 x (.d y) l))))
 |int k=>exact zN k fun m=>oL (σ.nU n) fun c r=>ka c (jI v fun y=>(m<r.length/\r.length<=ah)/\K (σ.lg n (some (.list [] (setAt r (r.length-1-m) y)))))
 |_=>exact False
noncomputable def tB:List Str->List D->ak->(ak->Prop)->Prop
 |[],[],ê,K=>K ê
 |x::xs,d::ds,ê,K=>tB xs ds (i9 x (.d d) ê) K
 |_,_,_,_=>False
noncomputable abbrev KF:=Fl->ak->St->Prop
noncomputable abbrev Ex:=T->ak->St->KF->Prop
noncomputable def bind1(so:List Str)(d:D)(ê:ak)(K:ak->Prop):Prop:=match so with
 |[]=>False
 |[x]=>K (i9 x (.d d) ê)
 |x::y::r=>match d with
  |.tuple l=>tB (x::y::r) l ê K
  |_=>False
noncomputable def DQ:Nat:=100000
structure Defs where
 par:Nat->List Str
 code:Nat->List T
noncomputable def fQ(Q:KV):KF:=fun fl _ aF=>match fl with
 |.ret v=>match v with
  |.t _=>False
  |v=>Q v aF
 |.next=>Q (.d .none) aF
 |.cont=>False
section
variable(f:Ev)(tab:List (Str×D))
abbrev KL:=List ag->St->Prop
abbrev KO:=Option ag->St->Prop
abbrev KB:=Bool->St->Prop
noncomputable def kL3(v':ag)(au:St)(Q:KL):KL:=fun vs eE=>xC v' au eE (Q (v'::vs) eE)
noncomputable def kL2(g:ak->St->KL->Prop)(ê:ak)(Q:KL):KV:=fun v' au=>g ê au (kL3 v' au Q)
noncomputable def kL1(g:ak->St->KL->Prop)(ê:ak)(Q:KL):KV:=fun v ab=>fz v ab (kL2 g ê Q)
noncomputable def DB:List E->ak->St->KL->Prop
 |[],_,σ,Q=>Q [] σ
 |e::es,ê,σ,Q=>f e ê σ (kL1 (DB es) ê Q)
noncomputable def Tx(Q:KO):KV:=fun v aF=>Q (some v) aF
noncomputable def Tz(e:Option E)(ê:ak)(σ:St)(Q:KO):Prop:=match e with
 |none=>Q none σ
 |some e=>f e ê σ (Tx Q)
noncomputable def uZ(v:ag)(K:Bool->Prop):Prop:=jI v fun x=>dB x K
noncomputable def Z5(σ:St)(Q:KB):Bool->Prop:=fun b=>Q b σ
noncomputable def JA(Q:KB):KV:=fun v ab=>uZ v (Z5 ab Q)
noncomputable def Xo(g:KB->St->Prop)(Q:KB):KB:=fun b ab=>match b with
 |true=>g Q ab
 |false=>Q false ab
noncomputable def kOr(g:KB->St->Prop)(Q:KB):KB:=fun b ab=>match b with
 |true=>Q true ab
 |false=>g Q ab
noncomputable def TA(op:CO)(v:ag)(ab:St)(Q:KB):KV:=fun w au=>xC v ab au (MN tab op v w au (Z5 au Q))
noncomputable def TB(op:CO)(r:E)(ê:ak)(Q:KB):KV:=fun v ab=>f r ê ab (TA tab op v ab Q)
noncomputable def Mw(g:ak->St->KB->Prop)(ê:ak):KB->St->Prop:=fun Q σ=>g ê σ Q
noncomputable def DR:Nat->E->ak->St->KB->Prop
 |0,_,_,_,_=>False
 |n+1,e,ê,σ,Q=>match e with
  |.cx l r=>DR n l ê σ (Xo (Mw (DR n r) ê) Q)
  |.A7 l r=>DR n l ê σ (kOr (Mw (DR n r) ê) Q)
  |.cmp op l r=>f l ê σ (TB f tab op r ê Q)
  |.var x=>f (.var x) ê σ (JA Q)
  |.sub o i=>f (.sub o i) ê σ (JA Q)
  |.call g l=>f (.call g l) ê σ (JA Q)
  |_=>False
noncomputable def Z6(x:D)(K:List D->Prop):Prop:=by
 induction x using PyData.casesOn with
 |list l=>exact small l.length (K l)
 |tuple l=>exact small l.length (K l)
 |_=>exact False
noncomputable def Z7(v:ag)(σ:St)(K:List D->Option (Nat×List D)->St->Prop):Prop:=by
 induction v using ag.casesOn with
 |d x=>exact Z6 x fun l=>K l none σ
 |b i=>exact Sx (A8 i) (oL (σ.nU i) fun c r=>ka c (small r.length (K r.reverse (some (i,r)) σ)))
 |_=>exact False
noncomputable def Xp(K:List D->Option (Nat×List D)->St->Prop):KV:=fun v ab=>jI v fun x=>dI x fun k=>zN k fun n=>small n (K (eL n) none ab)
noncomputable def TC(K:List D->Option (Nat×List D)->St->Prop):KV:=fun v ab=>Z7 v ab K
noncomputable def mq(it:E)(ê:ak)(σ:St)(K:List D->Option (Nat×List D)->St->Prop):Prop:=match Jz it with
 |some e=>f e ê σ (Xp K)
 |none=>f it ê σ (TC K)
noncomputable def kC2(g:List ag->St->KL->Prop)(acc:List ag)(Q:KL):KV:=fun v' au=>uY v' (g (v'::acc) au Q)
noncomputable def Z8(g:List ag->St->KL->Prop)(acc:List ag)(Q:KL):KV:=fun v ab=>fz v ab (kC2 g acc Q)
noncomputable def kCT(elt:E)(d9:ak)(g:List ag->St->KL->Prop)(acc:List ag)(Q:KL):KB:=fun b ab=>match b with
 |true=>f elt d9 ab (Z8 g acc Q)
 |false=>g acc ab Q
noncomputable def kb(m:Nat)(elt:E)(tg:Str)(cond:Option E)(w:Option (Nat×List D))(ê:ak):List D->List ag->St->KL->Prop
 |[],acc,σ,Q=>je w σ (Q acc.reverse σ)
 |x::xs,acc,σ,Q=>je w σ (match cond with
  |none=>f elt ((tg,.d x)::ê) σ (Z8 (kb m elt tg cond w ê xs) acc Q)
  |some c=>DR f tab m c ((tg,.d x)::ê) σ (kCT f elt ((tg,.d x)::ê) (kb m elt tg cond w ê xs) acc Q))
noncomputable def kD(σ:St)(Q:KV):D->Prop:=fun z=>Q (.d z) σ
noncomputable def kM(σ:St)(Q:KV):ag->Prop:=fun w=>Q w σ
noncomputable def kN(Q:KV):St->Prop:=fun σ=>Q (.d .none) σ
noncomputable def TF(a:Str)(Q:KV):KV:=fun v ab=>Bj v a ab (kM ab Q)
noncomputable def TG(v:ag)(ab:St)(Q:KV):KV:=fun w au=>xC v ab au (uX tab v w au (kM au Q))
noncomputable def TH(i:E)(ê:ak)(Q:KV):KV:=fun v ab=>f i ê ab (TG tab v ab Q)
noncomputable def Xq(v:ag)(a:Option ag)(Q:KV):KO:=fun b eE=>Jx a fun a'=>Jx b fun b'=>P8 v a' b' (kM eE Q)
noncomputable def Xr(v:ag)(hi:Option E)(ê:ak)(Q:KV):KO:=fun a au=>Tz f hi ê au (Xq v a Q)
noncomputable def Xs(lo hi:Option E)(ê:ak)(Q:KV):KV:=fun v ab=>Tz f lo ê ab (Xr f v hi ê Q)
noncomputable def Xu(v:ag)(Q:KV):KV:=fun w au=>Jg v fun i=>jI w fun y=>dI y fun k=>zN k fun m=>oL (au.nU i) fun c r=>ka c ((m<=r.length/\r.length<=ah)/\Q (.d (.list (r.take m).reverse)) au)
noncomputable def Xv(k:E)(ê:ak)(Q:KV):KV:=fun v ab=>f k ê ab (Xu v Q)
noncomputable def TJ(op:Op)(v:ag)(Q:KV):KV:=fun w au=>jI v fun x=>jI w fun y=>MM op x y (kD au Q)
noncomputable def TK(op:Op)(r:E)(ê:ak)(Q:KV):KV:=fun v ab=>f r ê ab (TJ op v Q)
noncomputable def kBv(σ:St)(Q:KV):Bool->Prop:=fun b=>Q (.d (.bool b)) σ
noncomputable def Xw(op:CO)(v:ag)(ab:St)(Q:KV):KV:=fun w au=>xC v ab au (MN tab op v w au (kBv au Q))
noncomputable def Xx(op:CO)(r:E)(ê:ak)(Q:KV):KV:=fun v ab=>f r ê ab (Xw tab op v ab Q)
noncomputable def kAn(r:E)(ê:ak)(Q:KV):KV:=fun v ab=>uZ v fun b=>Sy b (f r ê ab Q) (Q (.d (.bool false)) ab)
noncomputable def kOn(r:E)(ê:ak)(Q:KV):KV:=fun v ab=>uZ v fun b=>Sy b (Q (.d (.bool true)) ab) (f r ê ab Q)
noncomputable def kIf(t e:E)(ê:ak)(Q:KV):KB:=fun b ab=>match b with
 |true=>f t ê ab Q
 |false=>f e ê ab Q
noncomputable def Xy(Q:KV):KL:=fun vs ab=>oS (qL vs) fun ds=>Q (.d (.tuple ds)) ab
noncomputable def Xz(p:Place)(ê:ak)(Q:KV):KL:=fun vs ab=>pL p (Jh vs) ê ab Q
noncomputable def XA(p:Place)(ks:List Str)(ê:ak)(σ:St)(Q:KV):KL:=fun vs ab=>pK ê σ ab (pL p (.dict (ks.zip vs)) ê ab Q)
noncomputable def XB(ê:ak)(ab:St)(Q:KV):KV:=fun v au=>pK ê ab au (Q v {au with temps:=ab.temps})
noncomputable def OT(C:Cl)(g:Nat)(ê:ak)(Q:KV):KL:=fun vs ab=>C g vs {ab with temps:=[]} (XB ê ab Q)
noncomputable def kCv(C:Cl)(l:List E)(ê:ak)(Q:KV):KV:=fun v JB=>Xk v fun g=>DB f l ê JB (OT C g ê Q)
noncomputable def XC(o:ag)(ê:ak)(au:St)(Q:KV):KV:=fun v eE=>jI v fun x=>dN x (xC o au eE (pK ê au eE (Q o {eE with temps:=au.temps})))
noncomputable def XD(C:Cl)(g:Nat)(vs:List ag)(ê:ak)(Q:KV):KV:=fun o au=>C g (o::vs) {au with temps:=[]} (XC o ê au Q)
noncomputable def XE(C:Cl)(g k slot:Nat)(ê:ak)(Q:KV):KL:=fun vs ab=>pL (.base [slot]) (.inst k []) ê ab (XD C g vs ê Q)
noncomputable def XF(ê:ak)(Q:KV):KV:=fun v ab=>P9 v ê ab Q
noncomputable def XG(Q:KV):KV:=fun v ab=>Qa v ab fun k=>Q (.d (.int k)) ab
noncomputable def XH(Q:KV):KV:=fun v' au=>Qd v' (kD au Q)
noncomputable def XI(Q:KV):KV:=fun v ab=>fz v ab (XH Q)
noncomputable def kMl(Q:KV):KV:=fun v ab=>jI v fun x=>dL x fun l=>l.length<=ah/\Q (.d (.list l)) ab
noncomputable def XJ(Q:KV):KV:=fun v' au=>jI v' fun x=>dL x fun l=>l.length<=ah/\Q (.d (.tuple l)) au
noncomputable def kMt(Q:KV):KV:=fun v ab=>fz v ab (XJ Q)
noncomputable def XK(v:ag)(ab:St)(Q:KV):KV:=fun w au=>xC v ab au (y7 v w au (kN Q))
noncomputable def XM(x:E)(ê:ak)(Q:KV):KV:=fun v ab=>Bl v ab (f x ê ab (XK v ab Q))
noncomputable def XN(v:ag)(Q:KV):KV:=fun w au=>y8 v w au (kN Q)
noncomputable def XO(x:E)(ê:ak)(Q:KV):KV:=fun v ab=>Bl v ab (f x ê ab (XN v Q))
noncomputable def XQ(Q:KV):KV:=fun v ab=>Qc v ab Q
noncomputable def XR(v:ag)(ab:St)(Q:KV):KV:=fun w au=>xC v ab au (Qb v w au (kN Q))
noncomputable def XS(x:E)(ê:ak)(Q:KV):KV:=fun v ab=>Bm v ab (f x ê ab (XR v ab Q))
noncomputable def XT(v w:ag)(au:St)(Q:KV):KV:=fun u eE=>xC w au eE (Ww v fun i=>jI w fun y=>dS y fun a=>oD (aq eE.temps i) fun l=>match dE a l with
 |some y=>Q y eE
 |none=>Q u eE)
noncomputable def XU(x:E)(v:ag)(ê:ak)(Q:KV):KV:=fun w au=>f x ê au (XT v w au Q)
noncomputable def XW(k x:E)(ê:ak)(Q:KV):KV:=fun v ab=>Bm v ab<|f k ê ab (XU f x v ê Q)
noncomputable def XX(ê:ak)(ab:St)(Q:KV):KL:=fun vs au=>pK ê ab au (pL (match qL vs with|some _=>.fz|none=>.A6) (Jh vs) ê au Q)
noncomputable def XY(n:Nat)(elt:E)(tg:Str)(cond:Option E)(fv:List Str)(ê:ak)(Q:KV):List D->Option (Nat×List D)->St->Prop:=fun xs w ab=>
 n0 (envOf fv ê)<|kb f tab n elt tg cond w (envOf fv ê) xs [] ab (XX ê ab Q)
end
noncomputable def ev(G:Own)(C:Cl):Nat->Ev
 |0,_,_,_,_=>False
 |n+1,e,ê,σ,Q=>match e with
  |.c x=>Q (.d x) σ
  |.neg i=>Q (.d (.int (.negSucc i))) σ
  |.var x=>oS (dE x ê) fun v=>Q (res σ v) σ
  |.oY f=>Q (.fn f) σ
  |.OQ g=>match g with
   |0=>Q .g σ
   |_=>Q (.d G.tup) σ
  |.attr o a=>ev G C n o ê σ (TF a Q)
  |.sub o i=>ev G C n o ê σ (TH (ev G C n) G.tab i ê Q)
  |.DM o lo hi=>ev G C n o ê σ (Xs (ev G C n) lo hi ê Q)
  |.Bf o k=>ev G C n o ê σ (Xv (ev G C n) k ê Q)
  |.bin op l r=>ev G C n l ê σ (TK (ev G C n) op r ê Q)
  |.cmp op l r=>ev G C n l ê σ (Xx (ev G C n) G.tab op r ê Q)
  |.cx l r=>ev G C n l ê σ (kAn (ev G C n) r ê Q)
  |.A7 l r=>ev G C n l ê σ (kOn (ev G C n) r ê Q)
  |.ite c t e=>DR (ev G C n) G.tab n c ê σ (kIf (ev G C n) t e ê Q)
  |.tup l=>DB (ev G C n) l ê σ (Xy Q)
  |.lst p l=>DB (ev G C n) l ê σ (Xz p ê Q)
  |.G9 p ks l=>DB (ev G C n) l ê σ (XA p ks ê σ Q)
  |.call f l=>DB (ev G C n) l ê σ (OT C f ê Q)
  |.tw o l=>ev G C n o ê σ (kCv (ev G C n) C l ê Q)
  |.new k slot l=>DB (ev G C n) l ê σ (XE C (G.init k) k slot ê Q)
  |.gM e=>ev G C n e ê σ (XF ê Q)
  |.len e=>ev G C n e ê σ (XG Q)
  |.sg _=>False
  |.str e=>ev G C n e ê σ (XI Q)
  |.sj e=>ev G C n e ê σ (kMl Q)
  |.oZ e=>ev G C n e ê σ (kMt Q)
  |.append o x=>ev G C n o ê σ (XM (ev G C n) x ê Q)
  |.extend o x=>ev G C n o ê σ (XO (ev G C n) x ê Q)
  |.pop o=>ev G C n o ê σ (XQ Q)
  |.update o x=>ev G C n o ê σ (XS (ev G C n) x ê Q)
  |.get o k x=>ev G C n o ê σ (XW (ev G C n) k x ê Q)
  |.comp elt tg it cond fv=>mq (ev G C n) it ê σ (XY (ev G C n) G.tab n elt tg cond fv ê Q)
section
variable(f:Ev)
noncomputable def kSA(g:ak->St->(St->Prop)->Prop)(ê:ak)(K:St->Prop):St->Prop:=fun au=>g ê au K
noncomputable def XZ(a:Str)(d:D)(g:ak->St->(St->Prop)->Prop)(ê:ak)(K:St->Prop):KV:=fun w ab=>n4 w a (.d d) ab (kSA g ê K)
noncomputable def y9:List (E×Str)->List D->ak->St->(St->Prop)->Prop
 |[],[],_,σ,K=>K σ
 |p::l,d::ds,ê,σ,K=>f p.1 ê σ (XZ p.2 d (y9 l ds) ê K)
 |_,_,_,_,_=>False
noncomputable def kE(ê:ak)(K:ak->St->Prop):St->Prop:=fun σ=>K ê σ
noncomputable def Z9(σ:St)(K:ak->St->Prop):ak->Prop:=fun ê=>K ê σ
noncomputable def kAA(a:Str)(v:ag)(σ:St)(ê:ak)(K:ak->St->Prop):KV:=fun w ab=>xC v σ ab (n4 w a v ab (kE ê K))
noncomputable def X0(v:ag)(σ:St)(w:ag)(ab:St)(ê:ak)(K:ak->St->Prop):KV:=fun u au=>xC v σ au (xC w ab au (Bn w u v au (kE ê K)))
noncomputable def X1(i:E)(v:ag)(σ:St)(ê:ak)(K:ak->St->Prop):KV:=fun w ab=>f i ê ab (X0 v σ w ab ê K)
noncomputable def X2(w:ag)(ê:ak)(K:ak->St->Prop):KV:=fun u au=>Jg w fun i=>jI u fun y=>dI y fun k=>zN k fun m=>oL (au.nU i) fun c r=>ka c ((m<=r.length/\r.length<=ah)/\K ê (au.lg i (some (.list [] (r.drop m)))))
noncomputable def TL(n:E)(ê:ak)(K:ak->St->Prop):KV:=fun w ab=>f n ê ab (X2 w ê K)
noncomputable def MO(tg:Tg)(v:ag)(ê:ak)(σ:St)(K:ak->St->Prop):Prop:=match tg with
 |.x x=>K (i9 x v ê) σ
 |.attr o a=>f o ê σ (kAA a v σ ê K)
 |.sub o i=>f o ê σ (X1 f i v σ ê K)
 |.cut o n=>jI v fun x=>dL x fun l=>ka l (f o ê σ (TL f n ê K))
 |.tup xs=>jI v fun x=>dT x fun l=>tB xs l ê (Z9 σ K)
 |.atts l=>jI v fun x=>dT x fun ds=>OR (Nat.beq l.length ds.length) (y9 f l ds ê σ (kE ê K))
end
noncomputable def X3(g:ak->St->KF->Prop)(Q:KF):KF:=fun fl d9 aF=>match fl with
 |.next=>g d9 aF Q
 |.cont=>Q .cont d9 aF
 |.ret v=>Q (.ret v) d9 aF
noncomputable def gz(h:Ex):List T->ak->St->KF->Prop
 |[],ê,σ,Q=>Q .next ê σ
 |t::ts,ê,σ,Q=>h t ê σ (X3 (gz h ts) Q)
noncomputable def OU(g:ak->St->KF->Prop)(Q:KF):KF:=fun fl Qe aF=>match fl with
 |.next=>g Qe aF Q
 |.cont=>g Qe aF Q
 |.ret v=>Q (.ret v) Qe aF
noncomputable def TM(h:Ex)(body:List T)(σ:St)(K:KF):ak->Prop:=fun d9=>gz h body d9 σ K
noncomputable def forL(h:Ex)(so:List Str)(body:List T)(w:Option (Nat×List D)):List D->ak->St->KF->Prop
 |[],ê,σ,Q=>je w σ (Q .next ê σ)
 |x::xs,ê,σ,Q=>je w σ (bind1 so x ê (TM h body σ (OU (forL h so body w xs) Q)))
noncomputable def kWh(h:Ex)(body:List T)(g:ak->St->KF->Prop)(ê:ak)(Q:KF):KB:=fun b ab=>match b with
 |false=>Q .next ê ab
 |true=>gz h body ê ab (OU g Q)
noncomputable def za(t:ak->St->(Bool->St->Prop)->Prop)(h:Ex)(body:List T):Nat->ak->St->KF->Prop
 |0,_,_,_=>False
 |n+1,ê,σ,Q=>t ê σ (kWh h body (za t h body n) ê Q)
noncomputable def kX(ê:ak)(Q:KF):KV:=fun _ ab=>Q .next ê ab
noncomputable def X4(Q:KF):ak->St->Prop:=fun ê σ=>Q .next ê σ
noncomputable def kR2(ê:ak)(Q:KF):KV:=fun v' au=>Q (.ret v') ê au
noncomputable def kR1(ê:ak)(Q:KF):KV:=fun v ab=>fz v ab (kR2 ê Q)
noncomputable def kAg(f:Ev)(tg:Tg)(ê:ak)(Q:KF):KV:=fun v ab=>MO f tg v ê ab (X4 Q)
noncomputable def kSw(xs:List Str)(ê:ak)(Q:KF):KV:=fun v ab=>jI v fun x=>dT x fun l=>tB xs.reverse l.reverse ê (Z9 ab (X4 Q))
noncomputable def kAu(x:Str)(op:Op)(a:Int)(ê:ak)(Q:KF):KV:=fun w ab=>jI w fun y=>dI y fun b=>Hb op a b fun z=>Q .next (i9 x (.d (.int z)) ê) ab
noncomputable def X5(a:Str)(op:Op)(v x:ag)(ab:St)(ê:ak)(Q:KF):KV:=fun w au=>jI x fun x=>dI x fun x=>jI w fun y=>dI y fun y=>Hb op x y fun z=>xC v ab au (n4 v a (.d (.int z)) au (kE ê (X4 Q)))
noncomputable def X6(f:Ev)(e:E)(a:Str)(op:Op)(v:ag)(ab:St)(ê:ak)(Q:KF):ag->Prop:=fun x=>f e ê ab (X5 a op v x ab ê Q)
noncomputable def X7(f:Ev)(e:E)(a:Str)(op:Op)(ê:ak)(Q:KF):KV:=fun v ab=>Bj v a ab (X6 f e a op v ab ê Q)
noncomputable def kIt(h:Ex)(a b:List T)(ê:ak)(Q:KF):KB:=fun b' ab=>match b' with
 |true=>gz h a ê ab Q
 |false=>gz h b ê ab Q
noncomputable def kFor(h:Ex)(so:List Str)(b:List T)(ê:ak)(Q:KF):List D->Option (Nat×List D)->St->Prop:=fun xs w ab=>forL h so b w xs ê ab Q
noncomputable def ex(G:Own)(C:Cl):Nat->Ex
 |0,_,_,_,_=>False
 |n+1,t,ê,σ,Q=>match t with
  |.expr e=>ev G C n e ê σ (kX ê Q)
  |.pass=>Q .next ê σ
  |.cont=>Q .cont ê σ
  |.ret e=>match e with
   |none=>Q (.ret (.d .none)) ê σ
   |some e=>ev G C n e ê σ (kR1 ê Q)
  |.asg tg e=>ev G C n e ê σ (kAg (ev G C n) tg ê Q)
  |.Mw xs e=>ev G C n e ê σ (kSw xs ê Q)
  |.aug x op e=>oS (dE x ê) fun v=>jI v fun y=>dI y fun a=>ev G C n e ê σ (kAu x op a ê Q)
  |.DN o a op e=>ev G C n o ê σ (X7 (ev G C n) e a op ê Q)
  |.fL c a b=>DR (ev G C n) G.tab n c ê σ (kIt (ex G C n) a b ê Q)
  |.PY c b=>za (DR (ev G C n) G.tab n c) (ex G C n) b DQ ê σ Q
  |.gN so it b=>mq (ev G C n) it ê σ (kFor (ex G C n) so b ê Q)
  |.no=>False
noncomputable def Cd(G:Own)(P:Defs):Nat->Cl
 |0,_,_,_,_=>False
 |d+1,f,vs,σ,Q=>match Nat.beq (P.par f).length vs.length with
  |true=>gz (ex G (Cd G P d) 60) (P.code f) ((P.par f).zip vs) σ (fQ Q)
  |false=>False
end
end jB
namespace jB
open PySem PySem.W PySem.Calls PyProof.Rows
section
set_option genCtorIdx false
structure Wd where
 prog:Program
 w:World
 h₀:Heap
 K:Frag
 fa:Nat->Addr
 ca:Nat->Addr
 sa:Addr
 mg:Str->Option Value
 mb:Str->Option Value
set_option genCtorIdx true in
inductive Tag where
 |no|fr|b (i:Nat)|t (i:Nat)
deriving DecidableEq
structure Gh where
 B:Heap
 O:Addr->Tag
 lb:List (Option (Addr×Addr))
 lt:List Addr
noncomputable def JC:Tag->Prop
 |.no=>True
 |.fr=>True
 |_=>False
noncomputable def dP(B:Heap)(x:D)(v:Value):Prop:=∃as,Reads B v x as
noncomputable def Bo(B:Heap):List (Str×D)->List DictEntry->Prop
 |[],[]=>True
 |p::l,e::es=>(∃t,e.key=.str p.1 t)/\dP B p.2 e.val/\Bo B l es
 |_,_=>False
noncomputable def bG(W:Wd)(g:Gh):ag->Value->Prop
 |.d x,v=>dP g.B x v
 |.fn f,v=>v=.ref (W.fa f)
 |.ob k l,v=>∃a dx es n,v=.ref a/\g.B.get? a=some (instObj (W.ca k) dx)/\g.B.get? dx=some (dictOf es n)/\Bo g.B l es
 |.b i,v=>∃p,aq g.lb i=some (some p)/\v=.ref p.1
 |.t i,v=>∃a,aq g.lt i=some a/\v=.ref a
 |.g,v=>v=.ref W.sa
noncomputable def cc(W:Wd)(g:Gh):List ag->List Value->Prop
 |[],[]=>True
 |x::l,v::vs=>bG W g x v/\cc W g l vs
 |_,_=>False
noncomputable def gd(W:Wd)(g:Gh):List (Str×ag)->List (Str×Value)->Prop
 |[],[]=>True
 |p::l,q::vs=>q.1=p.1/\bG W g p.2 q.2/\gd W g l vs
 |_,_=>False
noncomputable def nQ(W:Wd)(g:Gh):List (Str×ag)->List DictEntry->Prop
 |[],[]=>True
 |p::l,e::es=>(∃t,e.key=.str p.1 t)/\bG W g p.2 e.val/\nQ W g l es
 |_,_=>False
noncomputable abbrev eu(ws:List Value)(n:Nat):Obj:={cls:=.type "list",data:=.seq ws.toArray n}
noncomputable def dq(W:Wd)(g:Gh)(h:Heap)(tag:Tag):aL->(Addr×Addr)->Prop
 |.list c r,p=>g.O p.1=tag/\∃ws n,h.get? p.1=some (eu ws n)/\cc W g (items c r) ws
 |.dict l,p=>g.O p.1=tag/\∃gK,Heap.DictOf (strKind W.prog W.w) h p.1 gK/\gd W g l gK
 |.inst k l,p=>g.O p.1=tag/\g.O p.2=tag/\p.1≠p.2/\h.get? p.1=some (instObj (W.ca k) p.2)/\∃es n,h.get? p.2=some (dictOf es n)/\nQ W g l es
 |.yk x,p=>dP g.B x (.ref p.1)
structure Inv(W:Wd)(g:Gh)(σ:St)(h:Heap):Prop where
 fR:∀a o,W.h₀.get? a=some o->g.B.get? a=some o
 gM:∀a o,g.B.get? a=some o->h.get? a=some o
 lM:∀a o,g.B.get? a=some o->g.O a=.no
 live:∀a,h.get? a=none->g.O a=.no
 qM:g.lb.length=σ.base.length
 qf:g.lt.length=σ.temps.length
 cb:∀i o,aq σ.base i=some (some o)->∃p,aq g.lb i=some (some p)/\dq W g h (.b i) o p
 cn:∀i,aq σ.base i=some none->aq g.lb i=some none
 ct:∀i o,aq σ.temps i=some o->∃a,aq g.lt i=some a/\dq W g h (.t i) o (a,a)/\(∀k l,o≠.inst k l)
 sb:∀i o,aq σ.base i=some (some o)->DO o=true
 DS:∀i c r,aq σ.temps i=some (.list c r)->kx c=true
 DT:∀i l,aq σ.temps i=some (.dict l)->∃l',pX l=some l'
structure gc(g:Gh)(σ:St)(h:Heap)(g':Gh)(aF:St)(h':Heap):Prop where
 bm:∀a o,g.B.get? a=some o->g'.B.get? a=some o
 fo:∀a o,h.get? a=some o->JC (g.O a)->h'.get? a=some o/\g'.O a=g.O a/\g'.B.get? a=g.B.get? a
 co:∀a o,h.get? a=some o->¬JC (g.O a)->(∃o',h'.get? a=some o')/\(g'.O a=g.O a\/g'.O a=.no)
 lb:∀i p,aq g.lb i=some (some p)->(A8 i=true->aF.gen=σ.gen)->aq g'.lb i=some (some p)
 lt:∀i a,aq g.lt i=some a->aq g'.lt i=some a
 gm:σ.gen<=aF.gen
theorem gc.refl(g:Gh)(σ:St)(h:Heap):gc g σ h g σ h:=
 ⟨fun _ _ e=>e,fun _ _ e _=>⟨e,rfl,rfl⟩,fun _ o e _=>⟨⟨o,e⟩,.inl rfl⟩,fun _ _ e _=>e,fun _ _ e=>e,Nat.le_refl _⟩
theorem gc.trans{g cD u0:Gh}{σ ab au:St}{h jC sq:Heap}(a:gc g σ h cD ab jC)(b:gc cD ab jC u0 au sq):gc g σ h u0 au sq where
 bm x o e:=b.bm x o (a.bm x o e)
 fo x o e f:=by
  refine nX (a.fo x o e f) fun e1 o1 b1=>?_;refine nX (b.fo x o e1 (o1▸f)) fun e2 o2 b2=>?_;exact⟨e2,o2.trans o1,b2.trans b1⟩
 co x o e f:=by
  obtain⟨⟨o',e1⟩,o1⟩:=a.co x o e f;rcases o1 with o1|o1
  ·obtain⟨q,o2⟩:=b.co x o' e1 (o1▸f);exact⟨q,o2.imp (fun z=>z.trans o1) id⟩
  ·refine nX (b.fo x o' e1 (o1▸trivial)) fun e2 o2 _=>?_;exact⟨⟨_,e2⟩,.inr (o2.trans o1)⟩
 lb i p e v:=by
  have h1:A8 i=true->ab.gen=σ.gen:=fun q=>Nat.le_antisymm (Nat.le_trans b.gm (Nat.le_of_eq (v q))) a.gm;exact b.lb i p (a.lb i p e h1) fun q=>(v q).trans (h1 q).symm
 lt i x e:=b.lt i x (a.lt i x e)
 gm:=Nat.le_trans a.gm b.gm
theorem dP.mono{B B':Heap}(hb:∀a o,B.get? a=some o->B'.get? a=some o){x:D}{v:Value}(r:dP B x v):dP B' x v:=
 let⟨as,q⟩:=r;⟨as,Reads.keeps hb q⟩
theorem Bo.mono{B B':Heap}(hb:∀a o,B.get? a=some o->B'.get? a=some o):∀{l:List (Str×D)} {es:List DictEntry},Bo B l es->Bo B' l es
 |[],[],_=>trivial
 |_::_,_::_,⟨a,b,c⟩=>⟨a,b.mono hb,c.mono hb⟩
 |[],_::_,h=>h.elim
 |_::_,[],h=>h.elim
section
variable{W:Wd}{g g':Gh}{σ aF:St}{h h':Heap}
theorem bG.mono(P:gc g σ h g' aF h'):∀{m:ag} {v:Value},bG W g m v->(ku m=true->aF.gen=σ.gen)->bG W g' m v:=by
 intro m v r hv
 induction m using ag.casesOn with
 |d _=>exact dP.mono P.bm r
 |ob _ _=>exact Jq r fun a dx es n e h1 h2 h3=>⟨a,dx,es,n,e,P.bm _ _ h1,P.bm _ _ h2,h3.mono P.bm⟩
 |b i=>exact bR r fun p e ev=>⟨p,P.lb i p e hv,ev⟩
 |t i=>exact bR r fun a e ev=>⟨a,P.lt i a e,ev⟩
 |_=>exact r
end
theorem bX{α:Type}:∀(l:List α) (i j:Nat) (x:α),aq (setAt l i x) j=if i=j then(aq l j).map fun _=>x else aq l j
 |[],i,j,x=>by by_cases h:i=j<;>simp[setAt,aq,h]
 |y::l,0,0,x=>rfl
 |y::l,0,j+1,x=>by simp[setAt,aq]
 |y::l,i+1,0,x=>by simp[setAt,aq]
 |y::l,i+1,j+1,x=>by
  show aq (setAt l i x) j=_;refine az (bX l i j x) ?_;by_cases h:i=j<;>simp[h,aq]
theorem fg{α:Type}:∀(l:List α) (i:Nat) (x:α),(setAt l i x).length=l.length
 |[],_,_=>rfl
 |_::_,0,_=>rfl
 |_::l,i+1,x=>congrArg (·+1) (fg l i x)
theorem eA{α:Type}:∀(l:List α) (x:α) (j:Nat),aq (l++[x]) j=if j=l.length then some x else aq l j
 |[],x,0=>rfl
 |[],x,j+1=>by simp[aq]
 |y::l,x,0=>by simp[aq]
 |y::l,x,j+1=>by
  show aq (l++[x]) j=_;refine az (eA l x j) ?_;by_cases h:j=l.length<;>simp[h,aq]
theorem mu{α:Type}:∀{l:List α} {i:Nat} {x:α},aq l i=some x->i<l.length
 |_::_,0,_,_=>Nat.succ_pos _
 |_::_,_+1,_,h=>Nat.succ_lt_succ (mu (l:=_) h)
theorem u4{α:Type}:∀(l:List α) (i:Nat),aq l i=l[i]?
 |[],_=>rfl
 |_::_,0=>rfl
 |_::l,i+1=>u4 l i
theorem F2:∀{a b:List Nat},PW a b=true↔a=b
 |[],[]=>by simp[PW]
 |[],_::_=>by simp[PW]
 |_::_,[]=>by simp[PW]
 |x::xs,y::ys=>by
  unfold PW;cases q:Nat.beq x y with
  |true=>
   have:x=y:=Nat.eq_of_beq_eq_true q;subst this;simp[F2 (a:=xs) (b:=ys)]
  |false=>
   have:x≠y:=Nat.ne_of_beq_eq_false q;simp[this]
theorem bj{a b:Str}:eZ a b=true↔a=b:=by
 unfold eZ;rw[F2];constructor
 ·intro h;cases a;cases b;simp only[Str.mk.injEq];exact Array.toList_inj.mp h
 ·intro h;rw[h]
theorem iV{a b:Str}:eZ a b=false↔a≠b:=by
 rw[<-Bool.not_eq_true,bj]
theorem Bp(a:Str):eZ a a=true:=bj.mpr rfl
theorem u5{α:Type}(x y:Str)(v:α):∀l:List (Str×α),dE y (i9 x v l)=if x=y then some v else dE y l
 |[]=>by
  by_cases h:x=y
  ·subst h;simp[i9,dE,Bp]
  ·simp[i9,dE,iV.mpr h,h]
 |p::l=>by
  unfold i9;cases q:eZ p.1 x with
  |true=>
   have e:=bj.mp q;by_cases h:x=y
   ·subst h;simp[dE,q]
   ·have:eZ p.1 y=false:=iV.mpr (by rw[e];exact h);simp[dE,this,h]
  |false=>
   have e:=iV.mp q;have ih:=u5 x y v l;by_cases h:x=y
   ·subst h;simp[dE,q,ih]
   ·cases r:eZ p.1 y<;>simp[dE,r,ih,h]
noncomputable def u6:Obj:={cls:=.none,data:=.freed}
noncomputable def jD(h:Heap)(a:Nat)(o:Obj):Heap:=⟨((h.objs.toList++List.replicate (a+1-h.objs.size) u6).set a o).toArray,h.life⟩
theorem gv(h:Heap)(a:Nat)(o:Obj)(ho:o.isFreed=false)(b:Nat):(jD h a o).get? b=if b=a then some o else h.get? b:=by
 apply Option.ext;intro o';rw[Heap.get?_some_iff];show(((h.objs.toList++List.replicate (a+1-h.objs.size) u6).set a o).toArray[b]?=some o'/\_)↔_;refine az (List.getElem?_toArray) ?_;refine az (List.getElem?_set) ?_;by_cases hb:a=b
 ·subst hb;have pY:a<(h.objs.toList++List.replicate (a+1-h.objs.size) u6).length:=by
   refine az (List.length_append) ?_;refine az (List.length_replicate) ?_;refine az (Array.length_toList) ?_;exact ai (DJ (a+1) (h.objs.size))
  refine az (if_pos rfl) ?_;refine az (if_pos pY) ?_;refine az (if_pos rfl) ?_;constructor
  ·rintro ⟨e,_⟩;exact e
  ·intro e;rcases e with _|_;exact⟨rfl,ho⟩
 ·have Bq:¬b=a:=fun e=>hb e.symm;rw[if_neg hb,if_neg Bq,Heap.get?_some_iff,List.getElem?_append];by_cases pY:b<h.objs.toList.length
  ·rw[if_pos pY,Array.getElem?_toList]
  ·refine az (if_neg pY) ?_;have e1:h.objs[b]?=none:=by
    rw[Array.getElem?_eq_none_iff];rw[Array.length_toList]at pY;exact Nat.le_of_not_lt pY
   refine az (e1) ?_;constructor
   ·rintro ⟨e,f⟩
    rw[List.getElem?_replicate]at e;by_cases q:b-h.objs.toList.length<a+1-h.objs.size
    ·rw[if_pos q]at e;rcases e with _|_;rcases f with _|_
    ·rw[if_neg q]at e;rcases e with _|_
   ·rintro ⟨e,_⟩;rcases e with _|_
theorem fh{h:Heap}{a:Nat}{o:Obj}(ho:o.isFreed=false)(hn:h.get? a=none):∀b o',h.get? b=some o'->(jD h a o).get? b=some o':=by
 intro b o' e;rw[gv h a o ho];by_cases hb:b=a
 ·subst hb;rw[hn]at e;rcases e with _|_
 ·rw[if_neg hb];exact e
theorem fS{h:Heap}{a:Nat}{o:Obj}(ho:o.isFreed=false):(jD h a o).get? a=some o:=by
 rw[gv h a o ho,if_pos rfl]
theorem lh{h:Heap}{motive:List Value->List D->Prop}(h0:motive [] [])(h1:∀v vs x xs as bs,Reads h v x as->ReadsAll h vs xs bs->motive vs xs->motive (v::vs) (x::xs)):∀{vs:List Value} {xs:List D} {as:List Addr},ReadsAll h vs xs as->motive vs xs
 |_,_,_,.nil=>h0
 |_,_,_,.cons a r=>h1 _ _ _ _ _ _ a r (lh h0 h1 r)
end
section
variable{W:Wd}{g g':Gh}{σ aF:St}{h h':Heap}
noncomputable def X8(env:Env)(h:Heap)(x:Str)(v:Value):Prop:=
 (env.kindOf x=some .local/\∃m,h.Ns env.locals m/\m x=some v)\/
 ((env.kindOf x=some .cell\/env.kindOf x=some .free)/\∃c,env.cells.lookup x=some c/\h.IsCell c (some v))
structure aS(W:Wd)(g:Gh)(env:Env)(ê:ak)(h:Heap):Prop where
 kind:env.scope.kind=.function
 fr:g.O env.locals=.fr
 ns:∃m,h.Ns env.locals m
 vars:∀x m,dE x ê=some m->∃v,X8 env h x v/\bG W g m v
 cells:∀x c,env.cells.lookup x=some c->g.O c=.fr/\c≠env.locals/\∃vo,h.IsCell c vo
 inj:∀x y c,env.cells.lookup x=some c->env.cells.lookup y=some c->x=y
 glob:env.globals=mainGlobals/\env.builtins=builtinsNs
 all:∀x,(env.kindOf x=some .cell\/env.kindOf x=some .free)->∃c,env.cells.lookup x=some c
theorem Ns.at{h h':Heap}{a:Addr}{m:Str->Option Value}(n:h.Ns a m)(k:∀o,h.get? a=some o->h'.get? a=some o):h'.Ns a m:=
 let⟨o,es,ep,ho,r⟩:=n;⟨o,es,ep,k o ho,r⟩
theorem IsCell.at{h h':Heap}{a:Addr}{v:Option Value}(n:h.IsCell a v)(k:∀o,h.get? a=some o->h'.get? a=some o):h'.IsCell a v:=
 let⟨o,ho,r⟩:=n;⟨o,k o ho,r⟩
theorem DictOf.at{K:Type}[DecidableEq K]{prog:Program}{w:World}{knd:PySem.KeyKind prog w K}{h h':Heap}{a:Addr}{gK:List (K×Value)}(n:Heap.DictOf knd h a gK)(k:∀o,h.get? a=some o->h'.get? a=some o):Heap.DictOf knd h' a gK:=
 let⟨o,es,ep,ho,r⟩:=n;⟨o,es,ep,k o ho,r⟩
theorem u7{x:Str}{m:ag}:∀{ê:ak},dE x ê=some m->ku m=true->iM ê=true
 |p::l,e,hv=>by
  unfold dE at e;unfold iM;split at e
  ·rcases e with _|_;rw[hv];rfl
  ·rw[u7 (ê:=l) e hv,Bool.or_true]
theorem aS.post{env:Env}{ê:ak}(C:aS W g env ê h)(P:gc g σ h g' aF h')(hv:iM ê=true->aF.gen=σ.gen):aS W g' env ê h':=by
 have kl:∀o,h.get? env.locals=some o->h'.get? env.locals=some o:=fun o e=>(P.fo _ o e (by rw[C.fr];trivial)).1;have kc:∀x c,env.cells.lookup x=some c->∀o,h.get? c=some o->h'.get? c=some o:=fun x c e o q=>(P.fo _ o q (by rw[(C.cells x c e).1];trivial)).1;refine⟨C.kind,?_,?_,fun x m e=>?_,fun x c e=>?_,C.inj,C.glob,C.all⟩
 ·refine SW (C.ns) fun m o _ _ ho _=>?_;rw[(P.fo _ o ho (by rw[C.fr];trivial)).2.1];exact C.fr
 ·obtain⟨m,n⟩:=C.ns;exact⟨m,Ns.at n kl⟩
 ·refine bR (C.vars x m e) fun v hh r=>?_;refine⟨v,?_,r.mono P fun q=>hv (u7 e q)⟩;rcases hh with⟨k,m',n,e'⟩|⟨k,c,e',ic⟩
  ·exact .inl ⟨k,m',Ns.at n kl,e'⟩
  ·exact .inr ⟨k,c,e',IsCell.at ic (kc x c e')⟩
 ·obtain⟨o1,ne,vo,ic⟩:=C.cells x c e;refine bR (id ic) fun o ho _=>?_;refine⟨?_,ne,vo,IsCell.at ic (kc x c e)⟩;rw[(P.fo _ o ho (by rw[o1];trivial)).2.1];exact o1
noncomputable abbrev RM(W:Wd)(g g':Gh):Prop:=∀m v,bG W g m v->bG W g' m v
theorem cc.rm(r:RM W g g'):∀{l:List ag} {vs:List Value},cc W g l vs->cc W g' l vs:=by
 intro l0
 induction l0 with
 |nil=>
  intro l1;rcases l1 with _|⟨y0,nK⟩
  ·intro _;exact trivial
  ·intro z;exact z.elim
 |cons x0 Ji ih=>
  intro l1;rcases l1 with _|⟨y0,nK⟩
  ·intro z;exact z.elim
  ·rintro ⟨a,b⟩
   exact⟨r _ _ a,ih b⟩
theorem gd.rm(r:RM W g g'):∀{l:List (Str×ag)} {vs:List (Str×Value)},gd W g l vs->gd W g' l vs:=by
 intro l0
 induction l0 with
 |nil=>
  intro l1;rcases l1 with _|⟨y0,nK⟩
  ·intro _;exact trivial
  ·intro z;exact z.elim
 |cons x0 Ji ih=>
  intro l1;rcases l1 with _|⟨y0,nK⟩
  ·intro z;exact z.elim
  ·rintro ⟨e,a,b⟩
   exact⟨e,r _ _ a,ih b⟩
theorem nQ.rm(r:RM W g g'):∀{l:List (Str×ag)} {vs:List DictEntry},nQ W g l vs->nQ W g' l vs:=by
 intro l0
 induction l0 with
 |nil=>
  intro l1;rcases l1 with _|⟨y0,nK⟩
  ·intro _;exact trivial
  ·intro z;exact z.elim
 |cons x0 Ji ih=>
  intro l1;rcases l1 with _|⟨y0,nK⟩
  ·intro z;exact z.elim
  ·rintro ⟨e,a,b⟩
   exact⟨e,r _ _ a,ih b⟩
theorem dq.rm{tag mZ:Tag}{o:aL}{p:Addr×Addr}(c:dq W g h tag o p)(r:RM W g g')(t1:g.O p.1=tag->g'.O p.1=mZ)(t2:g.O p.2=tag->g'.O p.2=mZ)
  (k1:g.O p.1=tag->∀o,h.get? p.1=some o->h'.get? p.1=some o) (k2:g.O p.2=tag->∀o,h.get? p.2=some o->h'.get? p.2=some o):dq W g' h' mZ o p:=by
 induction o using aL.casesOn with
 |list c' r'=>
  refine bc fun bf=>?_;obtain⟨o1,ws,n,hg,hr⟩:=c;refine bf ?_;exact⟨t1 o1,ws,n,k1 o1 _ hg,hr.rm r⟩
 |dict l=>
  refine bc fun bf=>?_;obtain⟨o1,gK,hd,hr⟩:=c;refine bf ?_;exact⟨t1 o1,gK,DictOf.at hd (k1 o1),hr.rm r⟩
 |inst k l=>
  refine bc fun bf=>?_;obtain⟨o1,o2,ne,hg,es,n,hd,hr⟩:=c;refine bf ?_;exact⟨t1 o1,t2 o2,ne,k1 o1 _ hg,es,n,k2 o2 _ hd,hr.rm r⟩
 |yk x=>exact r (.d x) _ c
theorem RM.same{O:Addr->Tag}:RM W g {g with O:=O}:=fun m v r=>by rcases m with _|_<;>exact r
theorem Inv.ke(I:Inv W g σ h)(k:∀b o,h.get? b=some o->h'.get? b=some o):Inv W g σ h'/\gc g σ h g σ h':=by
 refine⟨⟨I.fR,fun a o e=>k _ _ (I.gM a o e),I.lM,fun a e=>I.live a ?_,I.qM,I.qf,fun i o e=>?_,I.cn,fun i o e=>?_,I.sb,I.DS,I.DT⟩,⟨fun _ _ e=>e,fun a o e _=>⟨k _ _ e,rfl,rfl⟩,fun a o e _=>⟨⟨o,k _ _ e⟩,.inl rfl⟩,fun _ _ e _=>e,fun _ _ e=>e,Nat.le_refl _⟩⟩
 ·cases q:h.get? a with
  |none=>rfl
  |some o=>rw[k _ _ q]at e;rcases e with _|_
 ·refine bR (I.cb i o e) fun p e1 c=>?_;exact⟨p,e1,c.rm (fun _ _ r=>r) id id (fun _=>k _) (fun _=>k _)⟩
 ·refine i8 (I.ct i o e) fun a e1 c z=>?_;exact⟨a,e1,c.rm (fun _ _ r=>r) id id (fun _=>k _) (fun _=>k _),z⟩
theorem Inv.MP(I:Inv W g σ h)(k:∀b o,h.get? b=some o->h'.get? b=some o){a:Addr}{ob:Obj}(hn:h.get? a=none)(ha:h'.get? a=some ob)(hf:ob.isFreed=false):
  Inv W {g with B:=jD g.B a ob} σ h'/\gc g σ h {g with B:=jD g.B a ob} σ h':=by
 have Wz:g.B.get? a=none:=by
  cases q:g.B.get? a with
  |none=>rfl
  |some o=>have:=I.gM _ _ q;rw[hn]at this;rcases this with _|_
 have bm:∀b o,g.B.get? b=some o->(jD g.B a ob).get? b=some o:=fh hf Wz;have rm:RM W g {g with B:=jD g.B a ob}:=fun m v r=>by
  induction m using ag.casesOn with
  |d x=>exact dP.mono bm r
  |ob k' l=>obtain⟨a',dx,es,n,e,h1,h2,h3⟩:=r;exact⟨a',dx,es,n,e,bm _ _ h1,bm _ _ h2,h3.mono bm⟩
  |_=>exact r
 refine⟨⟨fun b o e=>bm _ _ (I.fR b o e),fun b o e=>?_,fun b o e=>?_,fun b e=>I.live b ?_,I.qM,I.qf,fun i o e=>?_,I.cn,fun i o e=>?_,I.sb,I.DS,I.DT⟩,
  ⟨bm,fun b o e _=>⟨k _ _ e,rfl,?_⟩,fun b o e _=>⟨⟨o,k _ _ e⟩,.inl rfl⟩,fun _ _ e _=>e,fun _ _ e=>e,Nat.le_refl _⟩⟩
 ·have e:(jD g.B a ob).get? b=some o:=e;rw[gv _ _ _ hf]at e;by_cases hb:b=a
  ·subst hb;rw[if_pos rfl]at e;rcases e with _|_;exact ha
  ·rw[if_neg hb]at e;exact k _ _ (I.gM _ _ e)
 ·have e:(jD g.B a ob).get? b=some o:=e;rw[gv _ _ _ hf]at e;by_cases hb:b=a
  ·subst hb;exact I.live _ hn
  ·rw[if_neg hb]at e;exact I.lM _ _ e
 ·cases q:h.get? b with
  |none=>rfl
  |some o=>rw[k _ _ q]at e;rcases e with _|_
 ·refine bR (I.cb i o e) fun p e1 c=>?_;exact⟨p,e1,c.rm rm id id (fun _=>k _) (fun _=>k _)⟩
 ·refine i8 (I.ct i o e) fun a' e1 c z=>?_;exact⟨a',e1,c.rm rm id id (fun _=>k _) (fun _=>k _),z⟩
 ·show(jD g.B a ob).get? b=_;rw[gv _ _ _ hf];by_cases hb:b=a
  ·subst hb;rw[hn]at e;rcases e with _|_
  ·rw[if_neg hb]
noncomputable def cM(O:Addr->Tag)(a:Addr)(t:Tag):Addr->Tag:=fun b=>if b=a then t else O b
theorem cZ(O:Addr->Tag)(a:Addr)(t:Tag):cM O a t a=t:=if_pos rfl
theorem cF{O:Addr->Tag}{a b:Addr}{t:Tag}(hb:b≠a):cM O a t b=O b:=if_neg hb
theorem iK{σ:St}{i:Nat}{o:aL}:σ.nU i=some o↔aq σ.base i=some (some o):=by
 unfold St.nU;constructor
 ·intro h;split at h
  ·rcases h with _|_;assumption
  ·rcases h with _|_
 ·intro h;rw[h]
end
section
variable{W:Wd}{g g':Gh}{σ aF:St}{h h':Heap}
theorem Br{h h':Heap}(k:∀b o,h.get? b=some o->h'.get? b=some o){a:Addr}(e:h'.get? a=none):h.get? a=none:=by
 cases q:h.get? a with
 |none=>rfl
 |some o=>rw[k _ _ q]at e;rcases e with _|_
theorem Inv.A6(I:Inv W g σ h)(k:∀b o,h.get? b=some o->h'.get? b=some o){a:Addr}{o:aL}(hn:h.get? a=none)(ha:∃ob,h'.get? a=some ob)
  (hc:∀g',RM W g g'->g'.O a=.t σ.temps.length->dq W g' h' (.t σ.temps.length) o (a,a)) (hi:∀k l,o≠.inst k l)
  (hl:∀c r,o=.list c r->kx c=true) (hd:∀l,o=.dict l->∃l',pX l=some l'):
  ∃g',RM W g g'/\aq g'.lt σ.temps.length=some a/\Inv W g' {σ with temps:=σ.temps++[o]} h'/\gc g σ h g' {σ with temps:=σ.temps++[o]} h':=by
 have ho:=I.live a hn;have rm:RM W g {g with O:=cM g.O a (.t σ.temps.length),lt:=g.lt++[a]}:=fun m v r=>by
  induction m using ag.casesOn with
  |t i=>
   refine bR (r) fun b e ev=>?_;exact⟨b,by show aq (g.lt++[a]) i=_;rw[eA,if_neg (Nat.ne_of_lt (mu e))];exact e,ev⟩
  |_=>exact r
 have on:∀b o',h.get? b=some o'->cM g.O a (.t σ.temps.length) b=g.O b:=fun b o' e=>cF fun q=>by subst q;rw[hn]at e;rcases e with _|_
 have lift:∀{tag:Tag} {o:aL} {p:Addr×Addr},tag≠.no->dq W g h tag o p->dq W {g with O:=cM g.O a (.t σ.temps.length),lt:=g.lt++[a]} h' tag o p:=fun ht c=>
  c.rm rm (fun q=>by show cM _ _ _ _=_;rw[cF fun z=>?_];exact q;rw[z,ho]at q;exact ht q.symm)
   (fun q=>by show cM _ _ _ _=_;rw[cF fun z=>?_];exact q;rw[z,ho]at q;exact ht q.symm) (fun _=>k _) (fun _=>k _)
 refine⟨{g with O:=cM g.O a (.t σ.temps.length),lt:=g.lt++[a]},rm,?_,?_,?_⟩
 ·show aq (g.lt++[a]) _=_;rw[eA,if_pos I.qf.symm]
 ·refine⟨I.fR,fun b o' e=>k _ _ (I.gM b o' e),fun b o' e=>?_,fun b e=>?_,I.qM,?_,fun i o' e=>?_,I.cn,fun i o' e=>?_,I.sb,fun i c r e=>?_,fun i l e=>?_⟩
  ·show cM _ _ _ _=_;rw[cF fun z=>?_];exact I.lM _ _ e;subst z;have:=I.gM _ _ e;rw[hn]at this;rcases this with _|_
  ·show cM _ _ _ _=_;rw[cF fun z=>?_];exact I.live _ (Br k e);subst z;obtain⟨ob,q⟩:=ha;rw[q]at e;rcases e with _|_
  ·show(g.lt++[a]).length=(σ.temps++[o]).length;rw[List.length_append,List.length_append,I.qf];rfl
  ·refine bR (I.cb i o' e) fun p e1 c=>?_;exact⟨p,e1,lift (by intro z;rcases z with _|_) c⟩
  ·have e:aq (σ.temps++[o]) i=some o':=e;rw[eA]at e;by_cases MQ:i=σ.temps.length
   ·rw[if_pos MQ]at e;rcases e with _|_;subst MQ
    refine⟨a,?_,hc _ rm (cZ ..),hi⟩;show aq (g.lt++[a]) _=_;rw[eA,if_pos I.qf.symm]
   ·rw[if_neg MQ]at e;refine i8 (I.ct i o' e) fun b e1 c z=>?_;refine⟨b,?_,lift (by intro z;rcases z with _|_) c,z⟩;show aq (g.lt++[a]) _=_;rw[eA,if_neg (Nat.ne_of_lt (mu e1))];exact e1
  ·have e:aq (σ.temps++[o]) i=some (.list c r):=e;rw[eA]at e;by_cases MQ:i=σ.temps.length
   ·rw[if_pos MQ]at e;rcases e with _|_;exact hl _ _ rfl
   ·rw[if_neg MQ]at e;exact I.DS _ _ _ e
  ·have e:aq (σ.temps++[o]) i=some (.dict l):=e;rw[eA]at e;by_cases MQ:i=σ.temps.length
   ·rw[if_pos MQ]at e;rcases e with _|_;exact hd _ rfl
   ·rw[if_neg MQ]at e;exact I.DT _ _ e
 ·refine⟨fun _ _ e=>e,fun b o' e _=>⟨k _ _ e,on _ _ e,rfl⟩,fun b o' e _=>⟨⟨o',k _ _ e⟩,.inl (on _ _ e)⟩,fun _ _ e _=>e,fun i b e=>?_,Nat.le_refl _⟩;show aq (g.lt++[a]) i=_;rw[eA,if_neg (Nat.ne_of_lt (mu e))];exact e
theorem Inv.nU(I:Inv W g σ h)(k:∀b o,h.get? b=some o->h'.get? b=some o){i:Nat}{p:Addr×Addr}{o:aL}(hb:aq σ.base i=some none)(Qf:h.get? p.1=none)(A9:h.get? p.2=none)
  (Hd:∃ob,h'.get? p.1=some ob) (ha2:∃ob,h'.get? p.2=some ob)
  (hc:∀g',RM W g g'->g'.O p.1=.b i->g'.O p.2=.b i->dq W g' h' (.b i) o p) (hT:DO o=true) {γ:Nat} (hγ:σ.gen<=γ):
  ∃g',RM W g g'/\aq g'.lb i=some (some p)/\Inv W g' {σ.lg i (some o)with gen:=γ} h'/\gc g σ h g' {σ.lg i (some o)with gen:=γ} h':=by
 have ho1:=I.live _ Qf;have xt:=I.live _ A9;have hl:=I.cn i hb;have rm:RM W g {g with O:=cM (cM g.O p.1 (.b i)) p.2 (.b i),lb:=setAt g.lb i (some p)}:=fun m v r=>by
  induction m using ag.casesOn with
  |b j=>
   refine bR (r) fun q e ev=>?_;refine⟨q,?_,ev⟩;show aq (setAt g.lb i (some p)) j=_;rw[bX];by_cases lj:i=j
   ·subst lj;rw[hl]at e;rcases e with _|_
   ·rw[if_neg lj];exact e
  |_=>exact r
 have same:∀b,b≠p.1->b≠p.2->cM (cM g.O p.1 (.b i)) p.2 (.b i) b=g.O b:=fun b h1 h2=>by rw[cF h2,cF h1]
 have on:∀b o',h.get? b=some o'->cM (cM g.O p.1 (.b i)) p.2 (.b i) b=g.O b:=fun b o' e=>same b (fun q=>by subst q;rw[Qf]at e;rcases e with _|_) (fun q=>by subst q;rw[A9]at e;rcases e with _|_);have tg:∀(tag:Tag) (b:Addr),tag≠.no->g.O b=tag->cM (cM g.O p.1 (.b i)) p.2 (.b i) b=tag:=fun tag b ht q=>by
  rw[same b (fun z=>?_) (fun z=>?_)];exact q
  ·rw[z,ho1]at q;exact ht q.symm
  ·rw[z,xt]at q;exact ht q.symm
 have lift:∀{tag:Tag} {o:aL} {q:Addr×Addr},tag≠.no->dq W g h tag o q->dq W {g with O:=cM (cM g.O p.1 (.b i)) p.2 (.b i),lb:=setAt g.lb i (some p)} h' tag o q:=fun ht c=>
  c.rm rm (tg _ _ ht) (tg _ _ ht) (fun _=>k _) (fun _=>k _)
 have pY:i<g.lb.length:=mu hl;have o1:cM (cM g.O p.1 (.b i)) p.2 (.b i) p.1=.b i:=by
  by_cases q:p.1=p.2
  ·rw[q];exact cZ ..
  ·rw[cF q];exact cZ ..
 have self:aq (setAt g.lb i (some p)) i=some (some p):=by rw[bX,if_pos rfl,hl];rfl
 refine⟨{g with O:=cM (cM g.O p.1 (.b i)) p.2 (.b i),lb:=setAt g.lb i (some p)},rm,self,?_,?_⟩
 ·refine⟨I.fR,fun b o' e=>k _ _ (I.gM b o' e),fun b o' e=>?_,fun b e=>?_,?_,I.qf,fun j o' e=>?_,fun j e=>?_,fun j o' e=>?_,fun j o' e=>?_,I.DS,I.DT⟩
  ·show cM _ _ _ _=_;have e':=I.gM _ _ e;rw[on _ _ e'];exact I.lM _ _ e
  ·show cM _ _ _ _=_;rw[same b (fun z=>?_) (fun z=>?_)];exact I.live _ (Br k e)
   ·subst z;obtain⟨ob,q⟩:=Hd;rw[q]at e;rcases e with _|_
   ·subst z;obtain⟨ob,q⟩:=ha2;rw[q]at e;rcases e with _|_
  ·show(setAt g.lb i (some p)).length=(setAt σ.base i (some o)).length;rw[fg,fg,I.qM]
  ·have e:aq (setAt σ.base i (some o)) j=some (some o'):=e;rw[bX]at e;by_cases lj:i=j
   ·subst lj;rw[if_pos rfl,hb]at e;rcases e with _|_
    exact⟨p,self,hc _ rm o1 (cZ ..)⟩
   ·rw[if_neg lj]at e;refine bR (I.cb j o' e) fun q e1 c=>?_;refine⟨q,?_,lift (by intro z;rcases z with _|_) c⟩;show aq (setAt g.lb i (some p)) j=_;rw[bX,if_neg lj];exact e1
  ·have e:aq (setAt σ.base i (some o)) j=some none:=e;rw[bX]at e;show aq (setAt g.lb i (some p)) j=_;rw[bX];by_cases lj:i=j
   ·subst lj;rw[if_pos rfl,hb]at e;rcases e with _|_
   ·rw[if_neg lj]at e⊢;exact I.cn j e
  ·refine i8 (I.ct j o' e) fun b e1 c z=>?_;exact⟨b,e1,lift (by intro z;rcases z with _|_) c,z⟩
  ·have e:aq (setAt σ.base i (some o)) j=some (some o'):=e;rw[bX]at e;by_cases lj:i=j
   ·subst lj;rw[if_pos rfl,hb]at e;rcases e with _|_;exact hT
   ·rw[if_neg lj]at e;exact I.sb j o' e
 ·refine⟨fun _ _ e=>e,fun b o' e _=>⟨k _ _ e,on _ _ e,rfl⟩,fun b o' e _=>⟨⟨o',k _ _ e⟩,.inl (on _ _ e)⟩,fun j q e _=>?_,fun _ _ e=>e,hγ⟩;show aq (setAt g.lb i (some p)) j=_;rw[bX];by_cases lj:i=j
  ·subst lj;rw[hl]at e;rcases e with _|_
  ·rw[if_neg lj];exact e
theorem Inv.upd(I:Inv W g σ h){tag:Tag}{q:Addr}(hq:g.O q=tag)(ht:¬JC tag)(k:∀b o,b≠q->h.get? b=some o->h'.get? b=some o)(hl:∃ob,h'.get? q=some ob)
  (hlen:aF.base.length=σ.base.length) (TN:aF.temps.length=σ.temps.length) (X9:aF.gen=σ.gen)
  (hb:∀i o,aq aF.base i=some o->aq σ.base i=some o\/(tag=.b i/\∃o' p,o=some o'/\aq g.lb i=some (some p)/\dq W g h' (.b i) o' p/\DO o'=true))
  (hbo:∀i o,aq aF.base i=some (some o)->aq σ.base i=some (some o)->tag=.b i->∃p,aq g.lb i=some (some p)/\dq W g h' (.b i) o p)
  (hc:∀i o,aq aF.temps i=some o->(aq σ.temps i=some o/\tag≠.t i)\/(tag=.t i/\∃a,aq g.lt i=some a/\dq W g h' (.t i) o (a,a)/\(∀k l,o≠.inst k l)/\(∀c r,o=.list c r->kx c=true)/\(∀l,o=.dict l->∃l',pX l=some l'))):
  Inv W g aF h'/\gc g σ h g aF h':=by
 have lift:∀{mZ:Tag} {o:aL} {p:Addr×Addr},mZ≠tag->dq W g h mZ o p->dq W g h' mZ o p:=fun ne c=>
  c.rm (fun _ _ r=>r) id id (fun z o=>k _ o fun e=>ne (by rw[<-z,e,hq])) (fun z o=>k _ o fun e=>ne (by rw[<-z,e,hq]))
 have nn:∀b,h'.get? b=none->h.get? b=none:=fun b e=>by
  by_cases Bq:b=q
  ·subst Bq;obtain⟨ob,z⟩:=hl;rw[z]at e;rcases e with _|_
  ·cases z:h.get? b with
   |none=>rfl
   |some o=>rw[k _ _ Bq z]at e;rcases e with _|_
 refine⟨⟨I.fR,fun b o e=>k _ _ (fun z=>?_) (I.gM b o e),I.lM,fun b e=>I.live _ (nn b e),I.qM.trans hlen.symm,I.qf.trans TN.symm,fun i o e=>?_,fun i e=>?_,fun i o e=>?_,fun i o e=>?_,fun i c r e=>?_,fun i l e=>?_⟩,
  ⟨fun _ _ e=>e,fun b o e f=>⟨k _ _ (fun z=>?_) e,rfl,rfl⟩,fun b o e f=>⟨?_,.inl rfl⟩,fun _ _ e _=>e,fun _ _ e=>e,Nat.le_of_eq X9.symm⟩⟩
 ·have:=I.lM _ _ e;rw[z,hq]at this;rw[this]at ht;exact ht trivial
 ·rcases hb i (some o) e with e'|⟨_,o',p,e',e1,c,_⟩
  ·refine bR (I.cb i o e') fun p e1 c=>?_;by_cases ti:tag=.b i
   ·exact hbo i o e e' ti
   ·exact⟨p,e1,lift (fun z=>ti z.symm) c⟩
  ·rcases e' with _|_;exact⟨p,e1,c⟩
 ·rcases hb i none e with e'|⟨_,o',p,e',_⟩
  ·exact I.cn i e'
  ·rcases e' with _|_
 ·rcases hc i o e with⟨e',ne⟩|⟨_,a,e1,c,z,_⟩
  ·refine i8 (I.ct i o e') fun a e1 c z=>?_;exact⟨a,e1,lift (fun z=>ne z.symm) c,z⟩
  ·exact⟨a,e1,c,z⟩
 ·rcases hb i (some o) e with e'|⟨_,o',p,e',_,_,z⟩
  ·exact I.sb i o e'
  ·rcases e' with _|_;exact z
 ·rcases hc i _ e with⟨e',ne⟩|⟨_,a,e1,c',z,y,_⟩
  ·exact I.DS i c r e'
  ·exact y c r rfl
 ·rcases hc i _ e with⟨e',ne⟩|⟨_,a,e1,c',z,_,y⟩
  ·exact I.DT i l e'
  ·exact y l rfl
 ·rw[z,hq]at f;exact ht f
 ·by_cases Bq:b=q
  ·subst Bq;exact hl
  ·exact⟨o,k _ _ Bq e⟩
theorem Inv.MR(I:Inv W g σ h){i:Nat}{q:Addr}{p:Addr×Addr}{o:aL}(hp:aq g.lb i=some (some p))(hq:g.O q=.b i)(k:∀b o,b≠q->h.get? b=some o->h'.get? b=some o)(hl:∃ob,h'.get? q=some ob)
  (c:dq W g h' (.b i) o p) (hT:DO o=true):Inv W g (σ.lg i (some o)) h'/\gc g σ h g (σ.lg i (some o)) h':=by
 refine I.upd hq (fun z=>z) k hl (fg ..) rfl rfl (fun j o' e=>?_) (fun j o' e e' t=>?_) (fun j o' e=>.inl ⟨e,fun z=>by cases z⟩)
 ·have e:aq (setAt σ.base i (some o)) j=some o':=e;rw[bX]at e;by_cases lj:i=j
  ·subst lj;rw[if_pos rfl]at e;cases z:aq σ.base i with
   |none=>rw[z]at e;cases e
   |some w=>rw[z]at e;cases e;exact .inr ⟨rfl,o,p,rfl,hp,c,hT⟩
  ·rw[if_neg lj]at e;exact .inl e
 ·rcases t with _|_;have e:aq (setAt σ.base i (some o)) i=some (some o'):=e;rw[bX,if_pos rfl,e']at e;rcases e with _|_;exact⟨p,hp,c⟩
theorem Inv.Yb(I:Inv W g σ h){i:Nat}{q:Addr}{o:aL}(hp:aq g.lt i=some q)(hq:g.O q=.t i)(k:∀b o,b≠q->h.get? b=some o->h'.get? b=some o)(hl:∃ob,h'.get? q=some ob)
  (c:dq W g h' (.t i) o (q,q)) (hi:∀k l,o≠.inst k l) (hv:∀c r,o=.list c r->kx c=true) (hd:∀l,o=.dict l->∃l',pX l=some l'):Inv W g (σ.Bg i o) h'/\gc g σ h g (σ.Bg i o) h':=by
 refine I.upd hq (fun z=>z) k hl rfl (fg ..) rfl (fun j o' e=>.inl e) (fun j o' e e' t=>by cases t) (fun j o' e=>?_);have e:aq (setAt σ.temps i o) j=some o':=e;rw[bX]at e;by_cases lj:i=j
 ·subst lj;rw[if_pos rfl]at e;cases z:aq σ.temps i with
  |none=>rw[z]at e;cases e
  |some w=>rw[z]at e;cases e;exact .inr ⟨rfl,q,hp,c,hi,hv,hd⟩
 ·rw[if_neg lj]at e;exact .inl ⟨e,fun z=>lj (by rcases z with _|_;rfl)⟩
end
section
variable{W:Wd}{g g':Gh}{σ aF:St}{h h':Heap}
theorem jJ(r:List D):items [] r=r.reverse.map ag.d:=by
 unfold items;rw[List.nil_append,List.map_reverse]
theorem gP:∀{l:List D} {ws:List Value},cc W g (l.map ag.d) ws->∃as,ReadsAll g.B ws l as:=by
 intro l0
 induction l0 with
 |nil=>
  intro l1;rcases l1 with _|⟨y0,nK⟩
  ·intro _;exact⟨_,.nil⟩
  ·intro z;exact z.elim
 |cons x0 Ji ih=>
  intro l1;rcases l1 with _|⟨y0,nK⟩
  ·intro z;exact z.elim
  ·rintro ⟨⟨as,a⟩,b⟩
   exact let⟨bs,q⟩:=ih b;⟨as++bs,.cons a q⟩
theorem u9{l:List D}{ws:List Value}{as:List Addr}(r:ReadsAll g.B ws l as):cc W g (l.map ag.d) ws:=
 lh (motive:=fun ws l=>cc W g (l.map ag.d) ws) trivial (fun _ _ _ _ _ _ a _ ih=>⟨⟨_,a⟩,ih⟩) r
theorem TO{a:Addr}{ob:Obj}{O:Addr->Tag}(hf:ob.isFreed=false)(hn:g.B.get? a=none):RM W g {g with B:=jD g.B a ob,O:=O}:=fun m v r=>by
 have bm:∀b o,g.B.get? b=some o->(jD g.B a ob).get? b=some o:=fh hf hn
 induction m using ag.casesOn with
 |d x=>exact dP.mono bm r
 |ob k' l=>obtain⟨a',dx,es,n,e,h1,h2,h3⟩:=r;exact⟨a',dx,es,n,e,bm _ _ h1,bm _ _ h2,h3.mono bm⟩
 |_=>exact r
theorem Inv.fzt(I:Inv W g σ h){i:Nat}{r:List D}{a:Addr}(hs:aq σ.temps i=some (.list [] r))(ha:aq g.lt i=some a):
  ∃g',RM W g g'/\dP g'.B (.list r.reverse) (.ref a)/\g'.lb=g.lb/\g'.lt=g.lt/\Inv W g' (σ.Bg i (.yk (.list r.reverse))) h/\gc g σ h g' (σ.Bg i (.yk (.list r.reverse))) h:=by
 refine i8 (I.ct i _ hs) fun a' e' c _=>?_;obtain rfl:=Option.some.inj (ha.symm.trans e');obtain⟨ho,ws,n,hg,hr⟩:=c;have ho:g.O a=.t i:=ho;have hg:h.get? a=some (eu ws n):=hg;have hf:(eu ws n).isFreed=false:=rfl;have Wz:g.B.get? a=none:=by
  cases q:g.B.get? a with
  |none=>rfl
  |some o=>have:=I.lM _ _ q;rw[ho]at this;rcases this with _|_
 rw[jJ]at hr;obtain⟨as,MS⟩:=gP hr;have bm:∀b o,g.B.get? b=some o->(jD g.B a (eu ws n)).get? b=some o:=fh hf Wz;have rm:RM W g {g with B:=jD g.B a (eu ws n),O:=cM g.O a .no}:=TO hf Wz;have hD:dP (jD g.B a (eu ws n)) (.list r.reverse) (.ref a):=⟨_,.list (fS hf) rfl rfl (ReadsAll.keeps bm (by simpa using MS))⟩;have tg:∀(tag:Tag) (b:Addr),tag≠.t i->g.O b=tag->cM g.O a .no b=tag:=fun tag b ht q=>by
  rw[cF fun z=>?_];exact q;subst z;rw[ho]at q;exact ht q.symm
 refine⟨_,rm,hD,rfl,rfl,⟨fun b o e=>bm _ _ (I.fR b o e),fun b o e=>?_,fun b o e=>?_,fun b e=>?_,I.qM,I.qf.trans (fg ..).symm,fun j o e=>?_,I.cn,fun j o e=>?_,I.sb,fun j c r' e=>?_,fun j l e=>?_⟩,
  ⟨bm,fun b o e f=>⟨e,?_,?_⟩,fun b o e f=>⟨⟨o,e⟩,?_⟩,fun _ _ e _=>e,fun _ _ e=>e,Nat.le_refl _⟩⟩
 ·have e:(jD g.B a (eu ws n)).get? b=some o:=e;rw[gv _ _ _ hf]at e;by_cases hb:b=a
  ·subst hb;rw[if_pos rfl]at e;rcases e with _|_;exact hg
  ·rw[if_neg hb]at e;exact I.gM _ _ e
 ·have e:(jD g.B a (eu ws n)).get? b=some o:=e;rw[gv _ _ _ hf]at e;show cM _ _ _ _=_;by_cases hb:b=a
  ·subst hb;exact cZ ..
  ·rw[if_neg hb]at e;rw[cF hb];exact I.lM _ _ e
 ·show cM _ _ _ _=_;by_cases hb:b=a
  ·subst hb;exact cZ ..
  ·rw[cF hb];exact I.live _ e
 ·refine bR (I.cb j o e) fun p e1 c=>?_;exact⟨p,e1,c.rm rm (tg _ _ (fun z=>by rcases z with _|_)) (tg _ _ (fun z=>by rcases z with _|_)) (fun _ _ e=>e) (fun _ _ e=>e)⟩
 ·have e:aq (setAt σ.temps i _) j=some o:=e;rw[bX]at e;by_cases lj:i=j
  ·subst lj;rw[if_pos rfl,hs]at e;rcases e with _|_
   exact⟨a,ha,hD,fun k l z=>nomatch z⟩
  ·rw[if_neg lj]at e;refine i8 (I.ct j o e) fun b e1 c z=>?_;exact⟨b,e1,c.rm rm (tg _ _ (fun z=>lj (by rcases z with _|_;rfl))) (tg _ _ (fun z=>lj (by rcases z with _|_;rfl))) (fun _ _ e=>e) (fun _ _ e=>e),z⟩
 ·have e:aq (setAt σ.temps i _) j=_:=e;rw[bX]at e;by_cases lj:i=j
  ·subst lj;rw[if_pos rfl,hs]at e;rcases e with _|_
  ·rw[if_neg lj]at e;exact I.DS j c r' e
 ·have e:aq (setAt σ.temps i _) j=_:=e;rw[bX]at e;by_cases lj:i=j
  ·subst lj;rw[if_pos rfl,hs]at e;rcases e with _|_
  ·rw[if_neg lj]at e;exact I.DT j l e
 ·show cM _ _ _ _=_;rw[cF fun z=>?_];subst z;rw[ho]at f;exact f.elim
 ·show(jD g.B a (eu ws n)).get? b=_;rw[gv _ _ _ hf,if_neg fun z=>?_];subst z;rw[ho]at f;exact f.elim
 ·by_cases hb:b=a
  ·subst hb;exact .inr (cZ ..)
  ·exact .inl (cF hb)
noncomputable def TP(W:Wd)(g g':Gh)(i:Nat):Prop:=∀m v,la i m=true->bG W g m v->bG W g' m v
theorem cc.OV{i:Nat}(r:TP W g g' i):∀{l:List ag} {vs:List Value},(∀m∈l,la i m=true)->cc W g l vs->cc W g' l vs:=by
 intro l0
 induction l0 with
 |nil=>
  intro l1;rcases l1 with _|⟨y0,nK⟩
  ·intro _ _;exact trivial
  ·intro _ z;exact z.elim
 |cons x0 Ji ih=>
  intro l1;rcases l1 with _|⟨y0,nK⟩
  ·intro _ z;exact z.elim
  ·rintro z ⟨a,b⟩
   exact⟨r _ _ (z _ (.head _)) a,ih (fun m hm=>z m (.tail _ hm)) b⟩
theorem gd.OV{i:Nat}(r:TP W g g' i):∀{l:List (Str×ag)} {vs:List (Str×Value)},jZ i l=true->gd W g l vs->gd W g' l vs:=by
 intro l0
 induction l0 with
 |nil=>
  intro l1;rcases l1 with _|⟨y0,nK⟩
  ·intro _ _;exact trivial
  ·intro _ z;exact z.elim
 |cons p l ih=>
  intro l1;rcases l1 with _|⟨y0,nK⟩
  ·intro _ z;exact z.elim
  ·rintro z ⟨e,a,b⟩
   have z:(la i p.2&&jZ i l)=true:=z;rw[Bool.and_eq_true]at z;exact⟨e,r _ _ z.1 a,ih z.2 b⟩
theorem nQ.OV{i:Nat}(r:TP W g g' i):∀{l:List (Str×ag)} {vs:List DictEntry},jZ i l=true->nQ W g l vs->nQ W g' l vs:=by
 intro l0
 induction l0 with
 |nil=>
  intro l1;rcases l1 with _|⟨y0,nK⟩
  ·intro _ _;exact trivial
  ·intro _ z;exact z.elim
 |cons p l ih=>
  intro l1;rcases l1 with _|⟨y0,nK⟩
  ·intro _ z;exact z.elim
  ·rintro z ⟨e,a,b⟩
   have z:(la i p.2&&jZ i l)=true:=z;rw[Bool.and_eq_true]at z;exact⟨e,r _ _ z.1 a,ih z.2 b⟩
theorem tC{i:Nat}:∀{l:List ag},kO i l=true->∀m∈l,la i m=true
 |v::l,h,m,hm=>by
  have h:(la i v&&kO i l)=true:=h;rw[Bool.and_eq_true]at h;rcases List.mem_cons.mp hm with rfl|hm
  ·exact h.1
  ·exact tC h.2 m hm
theorem Bs{i:Nat}{c:List ag}{r:List D}(h:kO i c=true):∀m∈items c r,la i m=true:=by
 intro m hm;unfold items at hm;rw[List.mem_reverse,List.mem_append]at hm;rcases hm with hm|hm
 ·exact tC h m hm
 ·obtain⟨d,_,rfl⟩:=List.mem_map.mp hm;rfl
theorem dq.OV{tag mZ:Tag}{o:aL}{p:Addr×Addr}{i:Nat}(c:dq W g h tag o p)(r:TP W g g' i)(no:uV i o=true)(t1:g.O p.1=tag->g'.O p.1=mZ)(t2:g.O p.2=tag->g'.O p.2=mZ)
  (k1:g.O p.1=tag->∀o,h.get? p.1=some o->h'.get? p.1=some o) (k2:g.O p.2=tag->∀o,h.get? p.2=some o->h'.get? p.2=some o):dq W g' h' mZ o p:=by
 induction o using aL.casesOn with
 |list c' r'=>
  refine bc fun bf=>?_;obtain⟨o1,ws,n,hg,hr⟩:=c;refine bf ?_;exact⟨t1 o1,ws,n,k1 o1 _ hg,hr.OV r (Bs no)⟩
 |dict l=>
  refine bc fun bf=>?_;obtain⟨o1,gK,hd,hr⟩:=c;refine bf ?_;exact⟨t1 o1,gK,DictOf.at hd (k1 o1),hr.OV r no⟩
 |inst k l=>
  refine bc fun bf=>?_;obtain⟨o1,o2,ne,hg,es,n,hd,hr⟩:=c;refine bf ?_;exact⟨t1 o1,t2 o2,ne,k1 o1 _ hg,es,n,k2 o2 _ hd,hr.OV r no⟩
 |yk x=>exact r (.d x) _ rfl c
theorem DU{i:Nat}(hv:A8 i=true){m:ag}(h:ku m=false):la i m=true:=by
 induction m using ag.casesOn with
 |b j=>
  show(!Nat.beq i j)=true;cases q:Nat.beq i j with
  |false=>rfl
  |true=>
   have:i=j:=Nat.eq_of_beq_eq_true q;subst this;have h:A8 i=false:=h;rw[hv]at h;cases h
 |_=>rfl
theorem zb{i:Nat}(hv:A8 i=true):∀{l:List ag},kx l=true->kO i l=true:=by
 intro l0
 induction l0 with
 |nil=>
  intro _;exact rfl
 |cons m l ih=>
  intro h;have h:(!ku m&&kx l)=true:=h;rw[Bool.and_eq_true]at h;show(la i m&&kO i l)=true;rw[DU hv (by simpa using h.1),ih h.2];rfl
theorem Bt{i:Nat}:∀{l:List (Str×ag)} {l':List (Str×D)},pX l=some l'->jZ i l=true:=by
 intro l0
 induction l0 with
 |nil=>intro _ _;rfl
 |cons p l ih=>
  intro l' h;obtain⟨k,m⟩:=p;refine Jy (motive:=fun m=>jZ i ((k,m)::l)=true) h fun x h=>DP h fun r e _=>?_;show(true&&jZ i l)=true;rw[ih e];rfl
theorem sr{i:Nat}:∀{l:List (Option aL)} {j:Nat} {o:aL},lX i l=true->aq l j=some (some o)->uV i o=true
 |none::l,0,_,_,e=>by cases e
 |none::l,j+1,o,h,e=>sr (l:=l) h e
 |some o'::l,0,_,h,e=>by
  have h:(uV i o'&&lX i l)=true:=h;rw[Bool.and_eq_true]at h;rcases e with _|_;exact h.1
 |some o'::l,j+1,o,h,e=>by
  have h:(uV i o'&&lX i l)=true:=h;rw[Bool.and_eq_true]at h;exact sr (l:=l) h.2 e
theorem MT:∀{l:List (Str×ag)} {l':List (Str×D)} {es:List DictEntry},pX l=some l'->nQ W g l es->Bo g.B l' es:=by
 intro l0
 induction l0 with
 |nil=>intro l' es h f;cases (show some []=some l' from h);rcases es with _|⟨e,es⟩<;>exact f
 |cons p l ih=>
  intro l' es h f;rcases es with _|⟨e,es⟩
  ·exact f.elim
  obtain⟨k,m⟩:=p;revert f;refine Jy (motive:=fun m=>nQ W g ((k,m)::l) (e::es)->Bo g.B l' (e::es)) h fun x h=>DP h fun r q z f=>?_;subst z;exact⟨f.1,f.2.1,ih q f.2.2⟩
theorem Inv.fzb(I:Inv W g σ h){i:Nat}{o:aL}{p:Addr×Addr}{qa qb:Addr}(hv:A8 i=true)(hs:aq σ.base i=some (some o))(hp:aq g.lb i=some (some p))(Mx:lX i σ.base=true)
  {B':Heap} (hB:∀b ob,g.B.get? b=some ob->B'.get? b=some ob) (hB1:∀b,b≠qa->b≠qb->B'.get? b=g.B.get? b) (hB2:∀b ob,B'.get? b=some ob->h.get? b=some ob)
  (h1:g.O qa=.b i) (h2:g.O qb=.b i):
  Inv W {g with B:=B',O:=cM (cM g.O qa .no) qb .no,lb:=setAt g.lb i none} {σ.lg i none with gen:=σ.gen+1} h/\
  gc g σ h {g with B:=B',O:=cM (cM g.O qa .no) qb .no,lb:=setAt g.lb i none} {σ.lg i none with gen:=σ.gen+1} h:=by
 have same:∀b,b≠qa->b≠qb->cM (cM g.O qa .no) qb .no b=g.O b:=fun b a c=>by rw[cF c,cF a]
 have Yc:cM (cM g.O qa .no) qb .no qa=.no:=by
  by_cases q:qa=qb
  ·rw[q];exact cZ ..
  ·rw[cF q];exact cZ ..
 have tg:∀(tag:Tag) (b:Addr),tag≠.b i->g.O b=tag->cM (cM g.O qa .no) qb .no b=tag:=fun tag b ht q=>by
  rw[same b (fun z=>?_) (fun z=>?_)];exact q
  ·subst z;rw[h1]at q;exact ht q.symm
  ·subst z;rw[h2]at q;exact ht q.symm
 have rm:TP W g {g with B:=B',O:=cM (cM g.O qa .no) qb .no,lb:=setAt g.lb i none} i:=fun m v no r=>by
  induction m using ag.casesOn with
  |d x=>exact dP.mono hB r
  |ob k' l=>obtain⟨a',dx,es,n,e,q1,q2,q3⟩:=r;exact⟨a',dx,es,n,e,hB _ _ q1,hB _ _ q2,q3.mono hB⟩
  |b j=>
   refine bR (r) fun q e ev=>?_;refine⟨q,?_,ev⟩;show aq (setAt g.lb i none) j=_;rw[bX,if_neg fun z=>?_];exact e;subst z;have no:(!Nat.beq i i)=true:=no;rw[show Nat.beq i i=true from Nat.beq_refl i]at no;cases no
  |_=>exact r
 refine⟨⟨fun b ob e=>hB _ _ (I.fR b ob e),hB2,fun b ob e=>?_,fun b e=>?_,?_,I.qf,fun j ob e=>?_,fun j e=>?_,fun j ob e=>?_,fun j ob e=>?_,I.DS,I.DT⟩,
  ⟨hB,fun b ob e f=>⟨e,?_,?_⟩,fun b ob e f=>⟨⟨ob,e⟩,?_⟩,fun j q e v=>?_,fun _ _ e=>e,Nat.le_succ _⟩⟩
 ·show cM _ _ _ _=_;by_cases a:b=qa
  ·rw[a];exact Yc
  ·by_cases c:b=qb
   ·rw[c];exact cZ ..
   ·rw[same b a c];rw[hB1 b a c]at e;exact I.lM _ _ e
 ·show cM _ _ _ _=_;by_cases a:b=qa
  ·rw[a];exact Yc
  ·by_cases c:b=qb
   ·rw[c];exact cZ ..
   ·rw[same b a c];exact I.live _ e
 ·show(setAt g.lb i none).length=(setAt σ.base i none).length;rw[fg,fg,I.qM]
 ·have e:aq (setAt σ.base i none) j=some (some ob):=e;rw[bX]at e;by_cases lj:i=j
  ·subst lj;rw[if_pos rfl,hs]at e;rcases e with _|_
  ·rw[if_neg lj]at e;refine bR (I.cb j ob e) fun q e1 c=>?_;refine⟨q,?_,c.OV rm (sr Mx e) (tg _ _ fun z=>lj (by rcases z with _|_;rfl)) (tg _ _ fun z=>lj (by rcases z with _|_;rfl)) (fun _ _ e=>e) (fun _ _ e=>e)⟩;show aq (setAt g.lb i none) j=_;rw[bX,if_neg lj];exact e1
 ·have e:aq (setAt σ.base i none) j=some none:=e;rw[bX]at e;show aq (setAt g.lb i none) j=_;rw[bX];by_cases lj:i=j
  ·subst lj;rw[if_pos rfl,hp];rfl
  ·rw[if_neg lj]at e⊢;exact I.cn j e
 ·refine i8 (I.ct j ob e) fun b e1 c z=>?_;refine⟨b,e1,c.OV rm ?_ (tg _ _ fun z=>nomatch z) (tg _ _ fun z=>nomatch z) (fun _ _ e=>e) (fun _ _ e=>e),z⟩
  induction ob using aL.casesOn with
  |list c' r'=>exact zb hv (I.DS j _ _ e)
  |dict l=>obtain⟨l',q⟩:=I.DT j _ e;exact Bt q
  |inst k l=>exact absurd rfl (z k l)
  |yk x=>rfl
 ·have e:aq (setAt σ.base i none) j=some (some ob):=e;rw[bX]at e;by_cases lj:i=j
  ·subst lj;rw[if_pos rfl,hs]at e;rcases e with _|_
  ·rw[if_neg lj]at e;exact I.sb j ob e
 ·show cM _ _ _ _=_;rw[same b (fun z=>?_) (fun z=>?_)]
  ·subst z;rw[h1]at f;exact f.elim
  ·subst z;rw[h2]at f;exact f.elim
 ·exact hB1 b (fun z=>by subst z;rw[h1]at f;exact f.elim) (fun z=>by subst z;rw[h2]at f;exact f.elim)
 ·by_cases a:b=qa
  ·right;rw[a];exact Yc
  ·by_cases c:b=qb
   ·right;rw[c];exact cZ ..
   ·exact .inl (same b a c)
 ·show aq (setAt g.lb i none) j=_;rw[bX,if_neg fun z=>?_];exact e;subst z;have v:σ.gen+1=σ.gen:=v hv;exact absurd v (Nat.succ_ne_self _)
theorem Inv.Sz(I:Inv W g σ h){q:Addr}(hq:g.O q=.fr)(k:∀b o,b≠q->h.get? b=some o->h'.get? b=some o)(hl:∃ob,h'.get? q=some ob):Inv W g σ h':=by
 have lift:∀{mZ:Tag} {o:aL} {p:Addr×Addr},mZ≠.fr->dq W g h mZ o p->dq W g h' mZ o p:=fun ne c=>
  c.rm (fun _ _ r=>r) id id (fun z o=>k _ o fun e=>ne (by rw[<-z,e,hq])) (fun z o=>k _ o fun e=>ne (by rw[<-z,e,hq]))
 refine⟨I.fR,fun b o e=>k _ _ (fun z=>?_) (I.gM b o e),I.lM,fun b e=>?_,I.qM,I.qf,fun i o e=>?_,I.cn,fun i o e=>?_,I.sb,I.DS,I.DT⟩
 ·have:=I.lM _ _ e;rw[z,hq]at this;rcases this with _|_
 ·apply I.live;by_cases Bq:b=q
  ·subst Bq;obtain⟨ob,z⟩:=hl;rw[z]at e;rcases e with _|_
  ·cases z:h.get? b with
   |none=>rfl
   |some o=>rw[k _ _ Bq z]at e;rcases e with _|_
 ·refine bR (I.cb i o e) fun p e1 c=>?_;exact⟨p,e1,lift (fun z=>nomatch z) c⟩
 ·refine i8 (I.ct i o e) fun a e1 c z=>?_;exact⟨a,e1,lift (fun z=>nomatch z) c,z⟩
structure iB(g:Gh)(σ:St)(h:Heap)(g':Gh)(aF:St)(h':Heap):Prop where
 bm:∀a o,g.B.get? a=some o->g'.B.get? a=some o
 fo:∀a o,h.get? a=some o->g.O a=.no->h'.get? a=some o/\g'.O a=.no/\g'.B.get? a=g.B.get? a
 fr:∀a o,h.get? a=some o->g.O a=.fr->(∃o',h'.get? a=some o')/\g'.O a=.fr
 co:∀a o,h.get? a=some o->¬JC (g.O a)->(∃o',h'.get? a=some o')/\(g'.O a=g.O a\/g'.O a=.no)
 lb:∀i p,aq g.lb i=some (some p)->(A8 i=true->aF.gen=σ.gen)->aq g'.lb i=some (some p)
 lt:∀i a,aq g.lt i=some a->aq g'.lt i=some a
 gm:σ.gen<=aF.gen
theorem gc.s(P:gc g σ h g' aF h'):iB g σ h g' aF h' where
 bm:=P.bm
 fo a o e f:=let⟨x,y,z⟩:=P.fo a o e (f▸trivial);⟨x,y.trans f,z⟩
 fr a o e f:=let⟨x,y,z⟩:=P.fo a o e (f▸trivial);⟨⟨o,x⟩,y.trans f⟩
 co:=P.co
 lb:=P.lb
 lt:=P.lt
 gm:=P.gm
theorem iB.trans{cD u0:Gh}{ab au:St}{jC sq:Heap}(a:iB g σ h cD ab jC)(b:iB cD ab jC u0 au sq):iB g σ h u0 au sq where
 bm x o e:=b.bm x o (a.bm x o e)
 fo x o e f:=by
  refine nX (a.fo x o e f) fun e1 o1 b1=>?_;refine nX (b.fo x o e1 o1) fun e2 o2 b2=>?_;exact⟨e2,o2,b2.trans b1⟩
 fr x o e f:=by
  obtain⟨⟨o',e1⟩,o1⟩:=a.fr x o e f;exact b.fr x o' e1 o1
 co x o e f:=by
  obtain⟨⟨o',e1⟩,o1⟩:=a.co x o e f;rcases o1 with o1|o1
  ·obtain⟨q,o2⟩:=b.co x o' e1 (o1▸f);exact⟨q,o2.imp (fun z=>z.trans o1) id⟩
  ·refine nX (b.fo x o' e1 o1) fun e2 o2 _=>?_;exact⟨⟨_,e2⟩,.inr o2⟩
 lb i p e v:=by
  have h1:A8 i=true->ab.gen=σ.gen:=fun q=>Nat.le_antisymm (Nat.le_trans b.gm (Nat.le_of_eq (v q))) a.gm;exact b.lb i p (a.lb i p e h1) fun q=>(v q).trans (h1 q).symm
 lt i x e:=b.lt i x (a.lt i x e)
 gm:=Nat.le_trans a.gm b.gm
theorem iB.refl(g:Gh)(σ:St)(h:Heap):iB g σ h g σ h:=(gc.refl g σ h).s
theorem iB.Sz{q:Addr}(hq:g.O q=.fr)(k:∀b o,b≠q->h.get? b=some o->h'.get? b=some o)(hl:∃ob,h'.get? q=some ob):iB g σ h g σ h':=by
 have any:∀a o,h.get? a=some o->∃o',h'.get? a=some o':=fun a o e=>by
  by_cases z:a=q
  ·subst z;exact hl
  ·exact⟨o,k a o z e⟩
 exact⟨fun _ _ e=>e,fun a o e f=>⟨k a o (fun z=>by subst z;rw[hq]at f;rcases f with _|_) e,f,rfl⟩,fun a o e f=>⟨any a o e,f⟩,fun a o e f=>⟨any a o e,.inl rfl⟩,fun _ _ e _=>e,fun _ _ e=>e,Nat.le_refl _⟩
theorem iB.live{a:Addr}{o:Obj}(P:iB g σ h g' aF h')(e:h.get? a=some o):∃o',h'.get? a=some o':=by
 cases q:g.O a with
 |no=>exact⟨_,(P.fo a o e q).1⟩
 |fr=>exact(P.fr a o e q).1
 |b i=>exact(P.co a o e (by rw[q];exact id)).1
 |t i=>exact(P.co a o e (by rw[q];exact id)).1
end
theorem xD{ns:List Str}:∀{vs:List Value},ns.Nodup->ns.length=vs.length->(ns.filterMap fun n=>((ns.zip vs).lookup n).map (n,·))=ns.zip vs:=by
 have key:∀(ns:List Str) (vs:List Value) (pre:List (Str×Value)),(∀n∈ns,pre.lookup n=none)->ns.Nodup->ns.length=vs.length->
   (ns.filterMap fun n=>((pre++ns.zip vs).lookup n).map (n,·))=ns.zip vs:=by
  intro ns
  induction ns with
  |nil=>intro vs pre _ _ _;rfl
  |cons n ns ih=>
   intro vs pre hp hn hl
   induction vs using List.casesOn with
   |nil=>cases hl
   |cons v vs=>
    have pM:=List.nodup_cons.mp hn;have e1:(pre++(n::ns).zip (v::vs)).lookup n=some v:=by
     refine az (List.lookup_append) ?_;refine az (hp n (.head _)) ?_;simp[List.zip_cons_cons,List.lookup_cons]
    refine az (List.filterMap_cons) ?_;refine az (e1) ?_;show(n,v)::_=(n,v)::_
    congr 1
    have:=ih vs (pre++[(n,v)]) (fun m hm=>?_) pM.2 (Nat.succ.inj hl)
    ·refine Eq.trans ?_ this;simp
    ·refine az (List.lookup_append) ?_;refine az (hp m (.tail _ hm)) ?_;have:(m==n)=false:=by
      rw[beq_eq_false_iff_ne];intro e;subst e;exact pM.1 hm
     simp[List.lookup_cons,this]
 intro vs hn hl;have:=key ns vs [] (fun _ _=>rfl) hn hl
 simpa using this
theorem vc{n:Str}:∀{ns:List Str} {vs:List Value},n∈ns->ns.length=vs.length->((ns.zip vs).lookup n).isSome=true:=by
 intro l0
 induction l0 with
 |nil=>
  intro _ hm _;exact nomatch hm
 |cons m ns ih=>
  intro l1;rcases l1 with _|⟨v,vs⟩
  ·intro _ hl;rcases hl with _|_
  ·intro hm hl;refine az (List.zip_cons_cons) ?_;refine az (List.lookup_cons) ?_;cases q:n==m with
   |true=>rfl
   |false=>
    rcases List.mem_cons.mp hm with e|hm
    ·subst e;simp at q
    ·exact ih hm (Nat.succ.inj hl)
theorem vd{fd:FuncData}{as:List Arg}{vals:List Value}(hp:fd.params=⟨[],as,none,[],[],none,[]⟩)(hd:fd.defaults=.none)(hn:(as.map (·.arg)).Nodup)(hl:(as.map (·.arg)).length=vals.length):
  bindArgs fd ⟨vals,[]⟩=pure ((as.map (·.arg)).zip vals):=by
 have hfm:=xD hn hl;have aac:((as.map (·.arg)).filter fun n=>(((as.map (·.arg)).zip vals).lookup n).isNone)=[]:=by
  rw[List.filter_eq_nil_iff];intro n hm;have:=vc hm hl;simp[Option.isNone_iff_eq_none,Option.isSome_iff_ne_none]at this⊢;exact this
 unfold bindArgs;refine az (hp) ?_;refine az (hd) ?_;generalize SA:as.map (·.arg)=ns at*;have hg:¬(vals.length>ns.length):=by omega
 simp[SA,seqItems?,notAStandIn,hl,hfm];intro x hx Mx;exfalso;obtain⟨v,hv⟩:=Option.isSome_iff_exists.mp (vc (List.mem_of_mem_take hx) hl);exact Mx v (mem_of_lookup hv)
structure FnAt(W:Wd)(f:Nat)(ps:List Str)(body:List Stmt)(sc:Scope):Prop where
 ob:∃o fd as,W.h₀.get? (W.fa f)=some o/\o.data=.func fd/\W.h₀.CodeRec fd.code fd.qualname/\fd.body=.stmts body/\fd.scope=sc/\fd.closure=[]/\fd.globals=mainGlobals/\fd.builtins=builtinsNs/\
  fd.defaults=.none/\fd.params=⟨[],as,none,[],[],none,[]⟩/\as.map (·.arg)=ps
 nd:ps.Nodup
 kinds:(ps.all fun y=>sc.names.lookup y==some .local||sc.names.lookup y==some .cell)=true
 kind:sc.kind=.function
 co:sc.isCoroutine=false
 gen:sc.isGenerator=false
 Qg:(sc.names.all fun p=>p.2 != .free)=true
section
variable{W:Wd}{g g':Gh}{σ aF:St}{h h':Heap}
theorem tD{kf:Str->Option NameKind}{x:Str}:∀{binds:List (Str×Value)} {m:Str->Option Value},(∀p∈binds,p.1≠x)->bindL kf binds m x=m x
 |[],_,_=>rfl
 |(n,v)::r,m,h=>by
  unfold bindL;refine az (tD (binds:=r) fun p hp=>h p (.tail _ hp)) ?_;split
  ·exact if_neg fun e=>h (n,v) (.head _) e.symm
  ·rfl
theorem tE{kf:Str->Option NameKind}{x:Str}:∀{binds:List (Str×Value)} {m:Str->Option Value},(∀p∈binds,p.1≠x)->bindC kf binds m x=m x
 |[],_,_=>rfl
 |(n,v)::r,m,h=>by
  unfold bindC;refine az (tE (binds:=r) fun p hp=>h p (.tail _ hp)) ?_;split
  ·rfl
  ·exact if_neg fun e=>h (n,v) (.head _) e.symm
theorem Bu{kf:Str->Option NameKind}{x:Str}{mv:ag}:∀{ps:List Str} {vs:List ag} {vals:List Value} {m cm:Str->Option Value},ps.Nodup->ps.length=vs.length->cc W g vs vals->dE x (ps.zip vs)=some mv->
  ∃v,bG W g mv v/\(kf x=some .local->bindL kf (ps.zip vals) m x=some v)/\(¬kf x=some .local->bindC kf (ps.zip vals) cm x=some v)
 |p::ps,v::vs,w::vals,m,cm,hn,hl,⟨r,rs⟩,e=>by
  have pM:=List.nodup_cons.mp hn;have e:(match eZ p x with|true=>some v|false=>dE x (ps.zip vs))=some mv:=e;cases q:eZ p x with
  |true=>
   rw[q]at e;rcases e with _|_
   have q:=bj.mp q;subst q;have no:∀y∈ps.zip vals,y.1≠p:=by
    intro y hy e;have y1:=y.1;have y2:=y.2;exact pM.1 (e▸(List.of_mem_zip hy).1)
   refine⟨w,r,fun k=>?_,fun k=>?_⟩
   ·show bindL kf (ps.zip vals) _ p=some w;rw[tD no,if_pos k,if_pos rfl]
   ·show bindC kf (ps.zip vals) _ p=some w;rw[tE no,if_neg k,if_pos rfl]
  |false=>
   rw[q]at e;refine i8 (Bu (kf:=kf) (m:=if kf p=some .local then fun y=>if y=p then some w else m y else m) (cm:=if kf p=some .local then cm else fun y=>if y=p then some w else cm y) pM.2 (Nat.succ.inj hl) rs e) fun v' r' a b=>?_;exact⟨v',r',a,b⟩
 |[],_,_,_,_,_,_,_,e=>by cases e
 |_::_,[],_,_,_,_,hl,_,_=>by cases hl
 |_::_,_::_,[],_,_,_,_,z,_=>z.elim
noncomputable def jK:Tag->Tag
 |.b i=>.b i
 |_=>.no
noncomputable def xE(g:Gh)(fr:Addr->Bool):Gh:={B:=g.B,O:=fun a=>match fr a with|true=>.fr|false=>jK (g.O a),lb:=g.lb,lt:=[]}
noncomputable def Qh(σ:St):St:={σ with temps:=[]}
theorem bG.WA{g g':Gh}(bm:∀a o,g.B.get? a=some o->g'.B.get? a=some o)(lb:∀i p,aq g.lb i=some (some p)->aq g'.lb i=some (some p)){m:ag}{v:Value}(h:j9 m=true)(r:bG W g m v):bG W g' m v:=by
 induction m using ag.casesOn with
 |d x=>exact dP.mono bm r
 |ob k' l=>obtain⟨a',dx,es,n,e,h1,h2,h3⟩:=r;exact⟨a',dx,es,n,e,bm _ _ h1,bm _ _ h2,h3.mono bm⟩
 |b i=>obtain⟨p,e,ev⟩:=r;exact⟨p,lb _ _ e,ev⟩
 |t i=>cases h
 |fn f=>exact r
 |g=>exact r
noncomputable def SD(W:Wd)(g g':Gh):Prop:=∀m v,j9 m=true->bG W g m v->bG W g' m v
theorem su:∀{l:List ag},jd l=true->∀m∈l,j9 m=true
 |v::l,h,m,hm=>by
  have h:(j9 v&&jd l)=true:=h;rw[Bool.and_eq_true]at h;rcases List.mem_cons.mp hm with rfl|hm
  ·exact h.1
  ·exact su h.2 m hm
theorem He{c:List ag}{r:List D}(h:jd c=true):∀m∈items c r,j9 m=true:=by
 intro m hm;unfold items at hm;rw[List.mem_reverse,List.mem_append]at hm;rcases hm with hm|hm
 ·exact su h m hm
 ·obtain⟨d,_,rfl⟩:=List.mem_map.mp hm;rfl
theorem cc.My(r:SD W g g'):∀{l:List ag} {vs:List Value},(∀m∈l,j9 m=true)->cc W g l vs->cc W g' l vs:=by
 intro l0
 induction l0 with
 |nil=>
  intro l1;rcases l1 with _|⟨y0,nK⟩
  ·intro _ _;exact trivial
  ·intro _ z;exact z.elim
 |cons x0 Ji ih=>
  intro l1;rcases l1 with _|⟨y0,nK⟩
  ·intro _ z;exact z.elim
  ·rintro z ⟨a,b⟩
   exact⟨r _ _ (z _ (.head _)) a,ih (fun m hm=>z m (.tail _ hm)) b⟩
theorem gd.My(r:SD W g g'):∀{l:List (Str×ag)} {vs:List (Str×Value)},kG l=true->gd W g l vs->gd W g' l vs:=by
 intro l0
 induction l0 with
 |nil=>
  intro l1;rcases l1 with _|⟨y0,nK⟩
  ·intro _ _;exact trivial
  ·intro _ z;exact z.elim
 |cons p l ih=>
  intro l1;rcases l1 with _|⟨y0,nK⟩
  ·intro _ z;exact z.elim
  ·rintro z ⟨e,a,b⟩
   have z:(j9 p.2&&kG l)=true:=z;rw[Bool.and_eq_true]at z;exact⟨e,r _ _ z.1 a,ih z.2 b⟩
theorem nQ.My(r:SD W g g'):∀{l:List (Str×ag)} {vs:List DictEntry},kG l=true->nQ W g l vs->nQ W g' l vs:=by
 intro l0
 induction l0 with
 |nil=>
  intro l1;rcases l1 with _|⟨y0,nK⟩
  ·intro _ _;exact trivial
  ·intro _ z;exact z.elim
 |cons p l ih=>
  intro l1;rcases l1 with _|⟨y0,nK⟩
  ·intro _ z;exact z.elim
  ·rintro z ⟨e,a,b⟩
   have z:(j9 p.2&&kG l)=true:=z;rw[Bool.and_eq_true]at z;exact⟨e,r _ _ z.1 a,ih z.2 b⟩
theorem dq.My{tag:Tag}{o:aL}{p:Addr×Addr}(c:dq W g h tag o p)(r:SD W g g')(no:DO o=true)(t:∀a,g.O a=tag->g'.O a=tag)
  (k:∀a,g.O a=tag->∀o,h.get? a=some o->h'.get? a=some o):dq W g' h' tag o p:=by
 induction o using aL.casesOn with
 |list c' r'=>
  refine bc fun bf=>?_;obtain⟨o1,ws,n,hg,hr⟩:=c;refine bf ?_;exact⟨t _ o1,ws,n,k _ o1 _ hg,hr.My r (He no)⟩
 |dict l=>
  refine bc fun bf=>?_;obtain⟨o1,gK,hd,hr⟩:=c;refine bf ?_;exact⟨t _ o1,gK,DictOf.at hd (k _ o1),hr.My r no⟩
 |inst k' l=>
  refine bc fun bf=>?_;obtain⟨o1,o2,ne,hg,es,n,hd,hr⟩:=c;refine bf ?_;exact⟨t _ o1,t _ o2,ne,k _ o1 _ hg,es,n,k _ o2 _ hd,hr.My r no⟩
 |yk x=>rcases no with _|_
theorem Qi(I:Inv W g σ h)(k:∀b o,h.get? b=some o->h'.get? b=some o){fr:Addr->Bool}(hf:∀a,fr a=true->h.get? a=none/\∃o,h'.get? a=some o):Inv W (xE g fr) (Qh σ) h':=by
 have fF:∀a o,h.get? a=some o->fr a=false:=fun a o e=>by
  cases q:fr a with
  |false=>rfl
  |true=>rw[(hf a q).1]at e;cases e
 have rm:SD W g (xE g fr):=fun m v z r=>bG.WA (g:=g) (g':=xE g fr) (fun _ _ e=>e) (fun _ _ e=>e) z r;refine⟨I.fR,fun a o e=>k _ _ (I.gM a o e),fun a o e=>?_,fun a e=>?_,I.qM,rfl,fun i o e=>?_,I.cn,fun i o e=>(nomatch e),I.sb,fun i c r e=>(nomatch e),fun i l e=>(nomatch e)⟩
 ·show(match fr a with|true=>Tag.fr|false=>jK (g.O a))=.no;rw[fF a o (I.gM a o e),I.lM a o e];rfl
 ·show(match fr a with|true=>Tag.fr|false=>jK (g.O a))=.no;cases q:fr a with
  |true=>obtain⟨o,z⟩:=(hf a q).2;rw[z]at e;cases e
  |false=>
   have:h.get? a=none:=by
    cases z:h.get? a with
    |none=>rfl
    |some o=>rw[k _ _ z]at e;rcases e with _|_
   rw[I.live a this];rfl
 ·refine bR (I.cb i o e) fun p e1 c=>?_;refine⟨p,e1,c.My rm (I.sb i o e) (fun a q=>?_) (fun a _=>k a)⟩;show(match fr a with|true=>Tag.fr|false=>jK (g.O a))=.b i;have:fr a=false:=by
   cases z:fr a with
   |false=>rfl
   |true=>have:=I.live a (hf a z).1;rw[q]at this;rcases this with _|_
  rw[this,q];rfl
noncomputable def nL:Tag->Bool
 |.t _=>true
 |.fr=>true
 |_=>false
noncomputable def sx(g g':Gh):Gh:={B:=g'.B,O:=fun a=>match nL (g.O a)with|true=>g.O a|false=>jK (g'.O a),lb:=g'.lb,lt:=g.lt}
noncomputable def TQ(σ aF:St):St:={aF with temps:=σ.temps}
theorem DV{c:List ag}(hc:kx c=true):∀m∈c,ku m=false:=by
 induction c with
 |nil=>intro m hm;cases hm
 |cons v l ih=>
  intro m hm;have hc:(!ku v&&kx l)=true:=hc;rw[Bool.and_eq_true]at hc;rcases List.mem_cons.mp hm with rfl|hm
  ·simpa using hc.1
  ·exact ih hc.2 m hm
theorem Qj{fr:Addr->Bool}{jC:Heap}(I:Inv W g σ h)(k:∀b o,h.get? b=some o->jC.get? b=some o)(hf:∀a,fr a=true->h.get? a=none/\∃o,jC.get? a=some o)
  (I':Inv W g' aF h') (P:iB (xE g fr) (Qh σ) jC g' aF h'):
  Inv W (sx g g') (TQ σ aF) h'/\gc g σ h (sx g g') (TQ σ aF) h':=by
 have fF:∀a o,h.get? a=some o->fr a=false:=fun a o e=>by
  cases q:fr a with
  |false=>rfl
  |true=>rw[(hf a q).1]at e;cases e
 have JD:∀a o,h.get? a=some o->(xE g fr).O a=jK (g.O a):=fun a o e=>by
  show(match fr a with|true=>Tag.fr|false=>jK (g.O a))=_;rw[fF a o e]
 have JE:∀a,g.O a≠.no->∃o,h.get? a=some o:=fun a z=>by
  cases q:h.get? a with
  |none=>exact absurd (I.live a q) z
  |some o=>exact⟨o,rfl⟩
 have un:∀a o,h.get? a=some o->jK (g.O a)=.no->h'.get? a=some o/\g'.O a=.no/\g'.B.get? a=g.B.get? a:=fun a o e z=>P.fo a o (k a o e) ((JD a o e).trans z);have F3:∀t:Tag,nL t=true->jK t=.no:=fun t z=>by cases t<;>first|rfl|cases z
 have Yd:∀a,nL (g.O a)=true->(sx g g').O a=g.O a:=fun a z=>by
  show(match nL (g.O a)with|true=>g.O a|false=>jK (g'.O a))=_;rw[z]
 have JF:∀a,nL (g.O a)=false->(sx g g').O a=jK (g'.O a):=fun a z=>by
  show(match nL (g.O a)with|true=>g.O a|false=>jK (g'.O a))=_;rw[z]
 have Ye:∀a,nL (g.O a)=true->g'.O a=.no:=fun a z=>by
  obtain⟨o,e⟩:=JE a (fun q=>by rw[q]at z;cases z);exact(un a o e (F3 _ z)).2.1
 have My:SD W g' (sx g g'):=fun m v z r=>bG.WA (g:=g') (g':=sx g g') (fun _ _ e=>e) (fun _ _ e=>e) z r;have lbn:∀i p,A8 i=false->aq g.lb i=some (some p)->aq g'.lb i=some (some p):=fun i p z e=>P.lb i p e (fun q=>by rw[z]at q;cases q);have rmv:∀m v,ku m=false->bG W g m v->bG W (sx g g') m v:=fun m v z r=>by
  induction m using ag.casesOn with
  |d x=>exact dP.mono P.bm r
  |ob k' l=>obtain⟨a',dx,es,n,e,h1,h2,h3⟩:=r;exact⟨a',dx,es,n,e,P.bm _ _ h1,P.bm _ _ h2,h3.mono P.bm⟩
  |b i=>obtain⟨p,e,ev⟩:=r;exact⟨p,lbn i p z e,ev⟩
  |t i=>exact r
  |fn f=>exact r
  |g=>exact r
 refine⟨⟨I'.fR,I'.gM,fun a o e=>?_,fun a e=>?_,I'.qM,I.qf,fun i o e=>?_,I'.cn,fun i o e=>?_,I'.sb,I.DS,I.DT⟩,
  ⟨P.bm,fun a o e f=>?_,fun a o e f=>⟨P.live (k a o e),?_⟩,P.lb,fun _ _ e=>e,P.gm⟩⟩
 ·cases z:nL (g.O a)with
  |false=>rw[JF a z,I'.lM a o e];rfl
  |true=>
   exfalso;obtain⟨o',q⟩:=JE a (fun q=>by rw[q]at z;cases z);have:=(un a o' q (F3 _ z)).2.2;have e:g'.B.get? a=some o:=e;rw[e]at this;have:=I.lM _ _ this.symm;rw[this]at z;cases z
 ·cases z:nL (g.O a)with
  |false=>rw[JF a z,I'.live a e];rfl
  |true=>
   exfalso;obtain⟨o',q⟩:=JE a (fun q=>by rw[q]at z;cases z);rw[(un a o' q (F3 _ z)).1]at e;cases e
 ·refine bR (I'.cb i o e) fun p e1 c=>?_;refine⟨p,e1,c.My My (I'.sb i o e) (fun a q=>?_) (fun a _ o e=>e)⟩;cases z:nL (g.O a)with
  |false=>rw[JF a z,q];rfl
  |true=>rw[Ye a z]at q;cases q
 ·refine i8 (I.ct i o e) fun a e1 c z=>?_;refine⟨a,e1,?_,z⟩;have tt:g.O a=.t i->(sx g g').O a=.t i:=fun q=>by rw[Yd a (by rw[q];rfl),q]
  have kk:g.O a=.t i->∀o,h.get? a=some o->h'.get? a=some o:=fun q o e=>(un a o e (by rw[q];rfl)).1
  induction o using aL.casesOn with
  |list c' r'=>
   refine bc fun bf=>?_;obtain⟨o1,ws,n,hg,hr⟩:=c;refine bf ?_;have hv:=DV (I.DS i _ _ e);refine⟨tt o1,ws,n,kk o1 _ hg,?_⟩;have:∀(l:List ag) (ws:List Value),(∀m∈l,ku m=false)->cc W g l ws->cc W (sx g g') l ws:=by
    intro l
    induction l with
    |nil=>intro ws _ r;cases ws<;>exact r
    |cons m l ih=>intro ws hm r;induction ws using List.casesOn with
     |nil=>exact r.elim
     |cons w ws=>exact⟨rmv m w (hm m (.head _)) r.1,ih ws (fun m Hf=>hm m (.tail _ Hf)) r.2⟩
   refine this _ _ (fun m hm=>?_) hr;unfold items at hm;rw[List.mem_reverse,List.mem_append]at hm;rcases hm with hm|hm
   ·exact hv m hm
   ·obtain⟨d,_,rfl⟩:=List.mem_map.mp hm;rfl
  |dict l=>
   refine bc fun bf=>?_;obtain⟨o1,gK,hd,hr⟩:=c;obtain⟨l',hl⟩:=I.DT i l e;refine bf ?_;refine⟨tt o1,gK,DictOf.at hd (kk o1),?_⟩;have:∀(l:List (Str×ag)) (l':List (Str×D)) (ws:List (Str×Value)),pX l=some l'->gd W g l ws->gd W (sx g g') l ws:=by
    intro l
    induction l with
    |nil=>intro l' ws _ r;cases ws<;>exact r
    |cons p l ih=>intro l' ws hm r;induction ws using List.casesOn with
     |nil=>exact r.elim
     |cons w ws=>
      obtain⟨k',m⟩:=p;revert r;exact Jy (motive:=fun m=>gd W g ((k',m)::l) (w::ws)->gd W (sx g g') ((k',m)::l) (w::ws)) hm fun x h=>DP h fun r' q _ r=>⟨r.1,dP.mono P.bm r.2.1,ih _ ws q r.2.2⟩
   exact this _ _ _ hl hr
  |inst k' l=>exact absurd rfl (z k' l)
  |yk x=>exact dP.mono P.bm c
 ·cases z:nL (g.O a)with
  |true=>
   refine nX (un a o e (F3 _ z)) fun x _ y=>?_;exact⟨x,Yd a z,y⟩
  |false=>
   have q:g.O a=.no:=by
    revert z f;cases g.O a<;>intro f z<;>first|rfl|(cases z;done)|exact False.elim f
   refine bc fun bf=>?_;obtain⟨x,y,w⟩:=un a o e (by rw[q];rfl);refine bf ?_;exact⟨x,by rw[JF a z,y,q];rfl,w⟩
 ·cases z:nL (g.O a)with
  |true=>exact .inl (Yd a z)
  |false=>
   refine az (JF a z) ?_;cases w:g.O a with
   |no=>rw[w]at f;exact(f trivial).elim
   |fr=>rw[w]at z;cases z
   |t i=>rw[w]at z;cases z
   |b i=>
    have:(xE g fr).O a=.b i:=by rw[JD a o e,w];rfl
    obtain⟨_,q⟩:=P.co a o (k a o e) (by rw[this];exact id);rw[this]at q;rcases q with q|q
    ·left;rw[q];rfl
    ·right;rw[q];rfl
end
structure Nm where
 fn:Nat->Str
 cls:Nat->Str
 tab:Str
 tup:Str
 attrs:List Str
noncomputable def ua(x:Str):List Str->Bool
 |[]=>false
 |y::l=>eZ y x||ua x l
noncomputable abbrev Sc:=List (Str×NameKind)
noncomputable def dF(sc:Sc)(x:Str):Option NameKind:=dE x sc
noncomputable def TR(sc:Sc)(x:Str):Bool:=match dF sc x with
 |some .local=>true
 |some .cell=>true
 |some .free=>true
 |_=>false
noncomputable def fi(sc:Sc)(x:Str):Bool:=match dF sc x with
 |some .local=>true
 |some .cell=>true
 |_=>false
noncomputable def gQ(sc:Sc)(x:Str):Bool:=match dF sc x with
 |some .globalImplicit=>true
 |_=>false
noncomputable def m5:Str:=⟨⟨[95,95,100,101,98,117,103,95,95]⟩⟩
noncomputable def yn:Str:=⟨⟨[108,101,110]⟩⟩
noncomputable def zc:Str:=⟨⟨[114,97,110,103,101]⟩⟩
noncomputable def JG:Str:=⟨⟨[115,116,114]⟩⟩
noncomputable def DW:Str:=⟨⟨[108,105,115,116]⟩⟩
noncomputable def zd:Str:=⟨⟨[116,117,112,108,101]⟩⟩
noncomputable def Bv:Str:=⟨⟨[97,112,112,101,110,100]⟩⟩
noncomputable def Bw:Str:=⟨⟨[101,120,116,101,110,100]⟩⟩
noncomputable def OW:Str:=⟨⟨[112,111,112]⟩⟩
noncomputable def Bx:Str:=⟨⟨[117,112,100,97,116,101]⟩⟩
noncomputable def OX:Str:=⟨⟨[103,101,116]⟩⟩
noncomputable def Qk:Str:=⟨⟨[46,48]⟩⟩
noncomputable def m6:Str:=⟨⟨[]⟩⟩
noncomputable def By:Str:=⟨⟨[95,95,99,108,97,115,115,100,105,99,116,95,95]⟩⟩
noncomputable def ky(y x:Str):Bool:=eZ y x&& !eZ y m5&& !eZ y m6&& !eZ y By
noncomputable def TS:Op->Operator
 |.add=>.Add
 |.sub=>.Sub
 |.mul=>.Mult
 |.fdiv=>.FloorDiv
 |.mod=>.Mod
 |.pow=>.Pow
noncomputable def TU:CO->CmpOp
 |.eq=>.Eq
 |.ne=>.NotEq
 |.lt=>.Lt
 |.gt=>.Gt
 |.is=>.Is
 |.nP=>.IsNot
 |.isin=>.In
 |.yl=>.NotIn
noncomputable def Hg(p:Op)(o:Operator):Bool:=decide (o=TS p)
noncomputable def Ql(p:CO)(o:CmpOp):Bool:=decide (o=TU p)
theorem F4{p:Op}{o:Operator}(h:Hg p o=true):o=TS p:=of_decide_eq_true h
theorem MU{p:CO}{o:CmpOp}(h:Ql p o=true):o=TU p:=of_decide_eq_true h
noncomputable def notStar(x:Expr):Bool:=by
 induction x using Expr.casesOn with
 |Starred a b=>exact false
 |_=>exact true
noncomputable def jE(ck:E->Expr->Bool):List E->List Expr->Bool
 |[],[]=>true
 |e::es,x::xs=>notStar x&&ck e x&&jE ck es xs
 |_,_=>false
noncomputable def MV(ck:E->Expr->Bool):Option E->Option Expr->Bool
 |none,none=>true
 |some e,some x=>ck e x
 |_,_=>false
noncomputable def uC(x:Expr):Bool:=by
 induction x using Expr.casesOn with
 |Name a b=>exact true
 |_=>exact false
noncomputable def uD:Expr->Bool
 |.ListComp ..=>true
 |.SetComp ..=>true
 |.DictComp ..=>true
 |_=>false
noncomputable def sy(ve sc:Sc)(tg:Str)(fv:List Str):Bool:=
 (sc.all fun p=>match p.2 with
  |.local=>(eZ p.1 tg||eZ p.1 Qk)&&(match dF sc p.1 with|some .local=>true|_=>false)
  |.free=>match dF ve p.1 with
   |some .cell=>true
   |some .free=>true
   |_=>false
  |.globalImplicit=>true
  |_=>false)&&
 (match dF sc tg with|some .local=>true|_=>false)&&
 (fv.all fun x=>match dF sc x with|some .free=>true|_=>false)
noncomputable def ze(ve:Sc)(p:Str×NameKind):Str×NameKind:=match p.2 with
 |.free=>match dF ve p.1 with
  |some .cell=>(p.1,.cell)
  |_=>p
 |_=>p
noncomputable def pN(ve sc:Sc):Sc:=sc.map (ze ve)
noncomputable def isSet:Expr->Bool
 |.Set ..=>true
 |_=>false
noncomputable def distinct:List Str->Bool
 |[]=>true
 |x::l=>l.all (fun y=> !eZ x y)&&distinct l
theorem ff{P:Prop}(h:false=true):P:=Bool.noConfusion h
theorem cx{a b:Bool}(h:(a&&b)=true):a=true/\b=true:=Bool.and_eq_true_iff.mp h
theorem dR{P:Prop}{a b:Bool}(h:(a&&b)=true)(k:a=true->b=true->P):P:=k (cx h).1 (cx h).2
theorem iy{P:Prop}{a b c:Bool}(h:(a&&(b&&c))=true)(k:a=true->b=true->c=true->P):P:=dR h fun x h=>dR h (k x)
theorem lY{P:Prop}{a b c d:Bool}(h:(a&&(b&&(c&&d)))=true)(k:a=true->b=true->c=true->d=true->P):P:=dR h fun x h=>iy h (k x)
theorem qg{P:Prop}{a b c d e:Bool}(h:(a&&(b&&(c&&(d&&e))))=true)(k:a=true->b=true->c=true->d=true->e=true->P):P:=dR h fun x h=>lY h (k x)
theorem Qm{P:Prop}{a b c d e f:Bool}(h:(a&&(b&&(c&&(d&&(e&&f)))))=true)(k:a=true->b=true->c=true->d=true->e=true->f=true->P):P:=dR h fun x h=>qg h (k x)
theorem vf{P:Prop}{a b c d e f g:Bool}(h:(a&&(b&&(c&&(d&&(e&&(f&&g))))))=true)(k:a=true->b=true->c=true->d=true->e=true->f=true->g=true->P):P:=dR h fun x h=>Qm h (k x)
noncomputable def uE(x:Expr)(k:Const->Nat->Pos->Bool):Bool:=by
 induction x using Expr.casesOn with
 |Constant a b c=>exact k a b c
 |_=>exact false
@[elab_as_elim] theorem sz{motive:Expr->Prop}{x:Expr}{k:Const->Nat->Pos->Bool}(h:uE x k=true)(H:∀a b c,k a b c=true->motive (.Constant a b c)):motive x:=by
 revert h
 induction x using Expr.casesOn with
 |Constant a b c=>exact H a b c
 |_=>exact ff
noncomputable def TV(x:Expr)(k:UnaryOp->Expr->Pos->Bool):Bool:=by
 induction x using Expr.casesOn with
 |UnaryOp a b c=>exact k a b c
 |_=>exact false
@[elab_as_elim] theorem Qn{motive:Expr->Prop}{x:Expr}{k:UnaryOp->Expr->Pos->Bool}(h:TV x k=true)(H:∀a b c,k a b c=true->motive (.UnaryOp a b c)):motive x:=by
 revert h
 induction x using Expr.casesOn with
 |UnaryOp a b c=>exact H a b c
 |_=>exact ff
noncomputable def iN(x:Expr)(k:Str->Pos->Bool):Bool:=by
 induction x using Expr.casesOn with
 |Name a b=>exact k a b
 |_=>exact false
@[elab_as_elim] theorem dU{motive:Expr->Prop}{x:Expr}{k:Str->Pos->Bool}(h:iN x k=true)(H:∀a b,k a b=true->motive (.Name a b)):motive x:=by
 revert h
 induction x using Expr.casesOn with
 |Name a b=>exact H a b
 |_=>exact ff
noncomputable def sC(x:Expr)(k:Expr->Str->Pos->Bool):Bool:=by
 induction x using Expr.casesOn with
 |Attribute a b c=>exact k a b c
 |_=>exact false
@[elab_as_elim] theorem ll{motive:Expr->Prop}{x:Expr}{k:Expr->Str->Pos->Bool}(h:sC x k=true)(H:∀a b c,k a b c=true->motive (.Attribute a b c)):motive x:=by
 revert h
 induction x using Expr.casesOn with
 |Attribute a b c=>exact H a b c
 |_=>exact ff
noncomputable def yo(x:Expr)(k:Expr->Expr->Pos->Bool):Bool:=by
 induction x using Expr.casesOn with
 |Subscript a b c=>exact k a b c
 |_=>exact false
@[elab_as_elim] theorem pb{motive:Expr->Prop}{x:Expr}{k:Expr->Expr->Pos->Bool}(h:yo x k=true)(H:∀a b c,k a b c=true->motive (.Subscript a b c)):motive x:=by
 revert h
 induction x using Expr.casesOn with
 |Subscript a b c=>exact H a b c
 |_=>exact ff
noncomputable def zf(x:Expr)(k:Option Expr->Option Expr->Option Expr->Pos->Bool):Bool:=by
 induction x using Expr.casesOn with
 |Slice a b c d=>exact k a b c d
 |_=>exact false
@[elab_as_elim] theorem yq{motive:Expr->Prop}{x:Expr}{k:Option Expr->Option Expr->Option Expr->Pos->Bool}(h:zf x k=true)(H:∀a b c d,k a b c d=true->motive (.Slice a b c d)):motive x:=by
 revert h
 induction x using Expr.casesOn with
 |Slice a b c d=>exact H a b c d
 |_=>exact ff
noncomputable def JH(x:Expr)(k:Expr->Operator->Expr->Pos->Bool):Bool:=by
 induction x using Expr.casesOn with
 |BinOp a b c d=>exact k a b c d
 |_=>exact false
@[elab_as_elim] theorem F5{motive:Expr->Prop}{x:Expr}{k:Expr->Operator->Expr->Pos->Bool}(h:JH x k=true)(H:∀a b c d,k a b c d=true->motive (.BinOp a b c d)):motive x:=by
 revert h
 induction x using Expr.casesOn with
 |BinOp a b c d=>exact H a b c d
 |_=>exact ff
noncomputable def OY(x:Expr)(k:Expr->List CmpOp->List Expr->Pos->Bool):Bool:=by
 induction x using Expr.casesOn with
 |Compare a b c d=>exact k a b c d
 |_=>exact false
@[elab_as_elim] theorem F6{motive:Expr->Prop}{x:Expr}{k:Expr->List CmpOp->List Expr->Pos->Bool}(h:OY x k=true)(H:∀a b c d,k a b c d=true->motive (.Compare a b c d)):motive x:=by
 revert h
 induction x using Expr.casesOn with
 |Compare a b c d=>exact H a b c d
 |_=>exact ff
noncomputable def DX(x:Expr)(k:BoolOp->List Expr->Pos->Bool):Bool:=by
 induction x using Expr.casesOn with
 |BoolOp a b c=>exact k a b c
 |_=>exact false
@[elab_as_elim] theorem BA{motive:Expr->Prop}{x:Expr}{k:BoolOp->List Expr->Pos->Bool}(h:DX x k=true)(H:∀a b c,k a b c=true->motive (.BoolOp a b c)):motive x:=by
 revert h
 induction x using Expr.casesOn with
 |BoolOp a b c=>exact H a b c
 |_=>exact ff
noncomputable def TX(x:Expr)(k:Expr->Expr->Expr->Pos->Bool):Bool:=by
 induction x using Expr.casesOn with
 |IfExp a b c d=>exact k a b c d
 |_=>exact false
@[elab_as_elim] theorem Qo{motive:Expr->Prop}{x:Expr}{k:Expr->Expr->Expr->Pos->Bool}(h:TX x k=true)(H:∀a b c d,k a b c d=true->motive (.IfExp a b c d)):motive x:=by
 revert h
 induction x using Expr.casesOn with
 |IfExp a b c d=>exact H a b c d
 |_=>exact ff
noncomputable def yr(x:Expr)(k:List Expr->Nat->Pos->Bool):Bool:=by
 induction x using Expr.casesOn with
 |Tuple a b c=>exact k a b c
 |_=>exact false
@[elab_as_elim] theorem qO{motive:Expr->Prop}{x:Expr}{k:List Expr->Nat->Pos->Bool}(h:yr x k=true)(H:∀a b c,k a b c=true->motive (.Tuple a b c)):motive x:=by
 revert h
 induction x using Expr.casesOn with
 |Tuple a b c=>exact H a b c
 |_=>exact ff
noncomputable def JI(x:Expr)(k:List Expr->Pos->Bool):Bool:=by
 induction x using Expr.casesOn with
 |List a b=>exact k a b
 |_=>exact false
@[elab_as_elim] theorem JJ{motive:Expr->Prop}{x:Expr}{k:List Expr->Pos->Bool}(h:JI x k=true)(H:∀a b,k a b=true->motive (.List a b)):motive x:=by
 revert h
 induction x using Expr.casesOn with
 |List a b=>exact H a b
 |_=>exact ff
noncomputable def JK(x:Expr)(k:List (Option Expr)->List Expr->Pos->Bool):Bool:=by
 induction x using Expr.casesOn with
 |Dict a b c=>exact k a b c
 |_=>exact false
@[elab_as_elim] theorem JL{motive:Expr->Prop}{x:Expr}{k:List (Option Expr)->List Expr->Pos->Bool}(h:JK x k=true)(H:∀a b c,k a b c=true->motive (.Dict a b c)):motive x:=by
 revert h
 induction x using Expr.casesOn with
 |Dict a b c=>exact H a b c
 |_=>exact ff
noncomputable def zg(x:Expr)(k:Expr->List Expr->List Keyword->Pos->Bool):Bool:=by
 induction x using Expr.casesOn with
 |Call a b c d=>exact k a b c d
 |_=>exact false
@[elab_as_elim] theorem vg{motive:Expr->Prop}{x:Expr}{k:Expr->List Expr->List Keyword->Pos->Bool}(h:zg x k=true)(H:∀a b c d,k a b c d=true->motive (.Call a b c d)):motive x:=by
 revert h
 induction x using Expr.casesOn with
 |Call a b c d=>exact H a b c d
 |_=>exact ff
noncomputable def JM(x:Expr)(k:Expr->List Comprehension->Scope->Pos->Bool):Bool:=by
 induction x using Expr.casesOn with
 |ListComp a b c d=>exact k a b c d
 |_=>exact false
@[elab_as_elim] theorem JN{motive:Expr->Prop}{x:Expr}{k:Expr->List Comprehension->Scope->Pos->Bool}(h:JM x k=true)(H:∀a b c d,k a b c d=true->motive (.ListComp a b c d)):motive x:=by
 revert h
 induction x using Expr.casesOn with
 |ListComp a b c d=>exact H a b c d
 |_=>exact ff
noncomputable def Mz{α:Type}(l:List α)(k:Bool):Bool:=match l with|[]=>k|_::_=>false
noncomputable def yt{α:Type}(l:List α)(k:α->Bool):Bool:=match l with|[]=>false|x::l=>Mz l (k x)
noncomputable def TY{α:Type}(l:List α)(k:α->α->Bool):Bool:=match l with|[]=>false|x::l=>yt l (k x)
@[elab_as_elim] theorem tF{α:Type}{motive:List α->Prop}{l:List α}{k:Bool}(h:Mz l k=true)(H:k=true->motive []):motive l:=by
 rcases l with _|_<;>first|exact H h|exact ff h
@[elab_as_elim] theorem jf{α:Type}{motive:List α->Prop}{l:List α}{k:α->Bool}(h:yt l k=true)(H:∀x,k x=true->motive [x]):motive l:=by
 induction l using List.casesOn with
 |nil=>exact ff h
 |cons x l=>exact tF (motive:=fun l=>motive (x::l)) h (H x)
@[elab_as_elim] theorem F7{α:Type}{motive:List α->Prop}{l:List α}{k:α->α->Bool}(h:TY l k=true)(H:∀x y,k x y=true->motive [x,y]):motive l:=by
 induction l using List.casesOn with
 |nil=>exact ff h
 |cons x l=>exact jf (motive:=fun l=>motive (x::l)) h (H x)
noncomputable def vh{α:Type}(o:Option α)(k:Bool):Bool:=match o with|none=>k|some _=>false
noncomputable def qh{α:Type}(o:Option α)(k:α->Bool):Bool:=match o with|none=>false|some x=>k x
@[elab_as_elim] theorem qP{α:Type}{motive:Option α->Prop}{l:Option α}{k:Bool}(h:vh l k=true)(H:k=true->motive none):motive l:=by
 rcases l with _|_<;>first|exact H h|exact ff h
@[elab_as_elim] theorem qQ{α:Type}{motive:Option α->Prop}{l:Option α}{k:α->Bool}(h:qh l k=true)(H:∀x,k x=true->motive (some x)):motive l:=by
 rcases l with _|_<;>first|exact H _ h|exact ff h
noncomputable def JO(c:Const)(k:Int->Bool):Bool:=by
 induction c using Const.casesOn with
 |int j=>exact k j
 |_=>exact false
@[elab_as_elim] theorem MW{motive:Const->Prop}{c:Const}{k:Int->Bool}(h:JO c k=true)(H:∀j,k j=true->motive (.int j)):motive c:=by
 revert h
 induction c using Const.casesOn with
 |int j=>exact H j
 |_=>exact ff
noncomputable def OZ(c:Const)(d:D):Bool:=match d with
 |.none=>match c with|.none=>true|_=>false
 |.bool b=>match c with|.bool e=>b==e|_=>false
 |.int i=>JO c fun j=>decide (i=j)
 |.str s=>match c with|.str t=>eZ t s|_=>false
 |_=>false
theorem MX{motive:Const->D->Prop}{c:Const}{d:D}(h:OZ c d=true)(h0:motive .none .none)(h1:∀b,motive (.bool b) (.bool b))(h2:∀i,motive (.int i) (.int i))(h3:∀s,motive (.str s) (.str s)):motive c d:=by
 induction d using PyData.casesOn with
 |none=>rcases c with _|_<;>first|exact h0|exact ff h
 |bool b=>rcases c with _|_<;>first|exact ff h|exact eq_of_beq h▸h1 _
 |int b=>rcases c with _|_<;>first|exact ff h|exact of_decide_eq_true h▸h2 _
 |str b=>rcases c with _|_<;>first|exact ff h|exact bj.mp h▸h3 _
 |_=>exact ff h
noncomputable def TZ:UnaryOp->Bool
 |.USub=>true
 |_=>false
noncomputable def T3:Operator->Bool
 |.Sub=>true
 |_=>false
noncomputable def O0:BoolOp->Bool
 |.And=>true
 |.Or=>false
noncomputable def n5(x:Expr):Bool:=by
 induction x using Expr.casesOn with
 |Slice a b c d=>exact false
 |_=>exact true
noncomputable def pd(x:Expr):Bool:=by
 induction x using Expr.casesOn with
 |Call a b c d=>exact false
 |_=>exact true
noncomputable def zh(o k:E):Bool:=match o with
 |.var _=>match k with|.var _=>true|_=>false
 |_=>false
noncomputable def O1(x:Expr)(k:Expr->Expr->Pos->Bool):Bool:=DX x fun o vs p=>O0 o&&TY vs fun v w=>k v w p
noncomputable def T4(x:Expr)(k:Expr->Expr->Pos->Bool):Bool:=DX x fun o vs p=> !O0 o&&TY vs fun v w=>k v w p
@[elab_as_elim] theorem F8{motive:Expr->Prop}{x:Expr}{k:Expr->Expr->Pos->Bool}(h:O1 x k=true)(H:∀v w p,k v w p=true->motive (.BoolOp .And [v,w] p)):motive x:=
 BA h fun o _ p h=>dR h fun ho h=>by
  have e:o=.And:=by rcases o with _|_<;>first|rfl|exact ff ho
  subst e;exact F7 (motive:=fun vs=>motive (.BoolOp .And vs p)) h fun v w h=>H v w p h
@[elab_as_elim] theorem JP{motive:Expr->Prop}{x:Expr}{k:Expr->Expr->Pos->Bool}(h:T4 x k=true)(H:∀v w p,k v w p=true->motive (.BoolOp .Or [v,w] p)):motive x:=
 BA h fun o _ p h=>dR h fun ho h=>by
  have e:o=.Or:=by rcases o with _|_<;>first|rfl|exact ff ho
  subst e;exact F7 (motive:=fun vs=>motive (.BoolOp .Or vs p)) h fun v w h=>H v w p h
@[elab_as_elim] theorem yu{motive:E->E->Prop}{o k:E}(h:zh o k=true)(H:∀x y,motive (.var x) (.var y)):motive o k:=by
 revert h
 induction o using E.casesOn with
 |var x=>
  induction k using E.casesOn with
  |var y=>exact fun _=>H x y
  |_=>exact ff
 |_=>exact ff
noncomputable def onStr(c:Const)(k:Str->Bool):Bool:=by
 induction c using Const.casesOn with
 |str j=>exact k j
 |_=>exact false
@[elab_as_elim] theorem MY{motive:Const->Prop}{c:Const}{k:Str->Bool}(h:onStr c k=true)(H:∀j,k j=true->motive (.str j)):motive c:=by
 revert h
 induction c using Const.casesOn with
 |str j=>exact H j
 |_=>exact ff
noncomputable def F9:List Str->List (Option Expr)->Bool
 |[],[]=>true
 |k::ks,x::xs=>qh x (fun x=>uE x fun c _ _=>onStr c fun y=>eZ y k)&&F9 ks xs
 |_,_=>false
noncomputable def kP(x:Expr)(k:Str->Pos->List Expr->Pos->Bool):Bool:=zg x fun f as ks p=>iN f fun z zp=>Mz ks (k z zp as p)
@[elab_as_elim] theorem gX{motive:Expr->Prop}{x:Expr}{k:Str->Pos->List Expr->Pos->Bool}(h:kP x k=true)(H:∀z zp as p,k z zp as p=true->motive (.Call (.Name z zp) as [] p)):motive x:=
 vg h fun _ as _ p h=>dU (motive:=fun f=>motive (.Call f as _ p)) h fun z zp h=>tF (motive:=fun ks=>motive (.Call (.Name z zp) as ks p)) h fun h=>H z zp as p h
noncomputable def pg(x:Expr)(k:Expr->Str->Pos->List Expr->Pos->Bool):Bool:=zg x fun f as ks p=>sC f fun v m ap=>Mz ks (k v m ap as p)
@[elab_as_elim] theorem mz{motive:Expr->Prop}{x:Expr}{k:Expr->Str->Pos->List Expr->Pos->Bool}(h:pg x k=true)(H:∀v m ap as p,k v m ap as p=true->motive (.Call (.Attribute v m ap) as [] p)):motive x:=
 vg h fun _ as _ p h=>ll (motive:=fun f=>motive (.Call f as _ p)) h fun v m ap h=>tF (motive:=fun ks=>motive (.Call (.Attribute v m ap) as ks p)) h fun h=>H v m ap as p h
noncomputable def DY(x:Expr)(k:Str->Pos->Str->Pos->Str->Pos->Pos->Expr->Pos->Pos->Pos->Bool):Bool:=yo x fun v s q=>iN v fun v vp=>zf s fun lo u st sp=>qh lo fun lo=>vh u (vh st (JH lo fun c o w bp=>T3 o&&kP c fun ln lp as cp=>yt as fun a=>iN a fun v' Jj=>k v vp ln lp v' Jj cp w bp sp q))
@[elab_as_elim] theorem vi{motive:Expr->Prop}{x:Expr}{k:Str->Pos->Str->Pos->Str->Pos->Pos->Expr->Pos->Pos->Pos->Bool}(h:DY x k=true)(H:∀v vp ln lp v' Jj cp w bp sp q,k v vp ln lp v' Jj cp w bp sp q=true->motive (.Subscript (.Name v vp) (.Slice (some (.BinOp (.Call (.Name ln lp) [.Name v' Jj] [] cp) .Sub w bp)) none none sp) q)):motive x:=
 pb h fun _ s q h=>dU (motive:=fun v=>motive (.Subscript v s q)) h fun v vp h=>yq (motive:=fun s=>motive (.Subscript (.Name v vp) s q)) h fun lo u st sp h=>qQ (motive:=fun lo=>motive (.Subscript (.Name v vp) (.Slice lo u st sp) q)) h fun lo h=>
  qP (motive:=fun u=>motive (.Subscript (.Name v vp) (.Slice (some lo) u st sp) q)) h fun h=>qP (motive:=fun st=>motive (.Subscript (.Name v vp) (.Slice (some lo) none st sp) q)) h fun h=>
  F5 (motive:=fun lo=>motive (.Subscript (.Name v vp) (.Slice (some lo) none none sp) q)) h fun c o w bp h=>by
   obtain⟨ho,h⟩:=cx h;have ho:o=.Sub:=by rcases o with _|_<;>first|rfl|exact ff ho
   subst ho;refine gX (motive:=fun c=>motive (.Subscript (.Name v vp) (.Slice (some (.BinOp c .Sub w bp)) none none sp) q)) h fun ln lp as cp h=>?_;refine jf (motive:=fun as=>motive (.Subscript (.Name v vp) (.Slice (some (.BinOp (.Call (.Name ln lp) as [] cp) .Sub w bp)) none none sp) q)) h fun a h=>?_;exact dU (motive:=fun a=>motive (.Subscript (.Name v vp) (.Slice (some (.BinOp (.Call (.Name ln lp) [a] [] cp) .Sub w bp)) none none sp) q)) h fun v' Jj h=>H v vp ln lp v' Jj cp w bp sp q h
noncomputable def T5(tg:Str)(g:Comprehension):Bool:=iN g.target (fun t _=>eZ t tg&& !eZ t m5)&&(decide (g.is_async=0)&& !isSet g.iter)
noncomputable def vj(ck:E->Expr->Bool)(cond:Option E)(ifs:List Expr):Bool:=match cond with
 |none=>Mz ifs true
 |some c=>yt ifs fun z=>ck c z
noncomputable def T6:ScopeKind->Bool
 |.function=>true
 |_=>false
noncomputable def aH(N:Nm):Nat->Sc->E->Expr->Bool
 |0,_,_,_=>false
 |n+1,sc,e,x=>match e with
  |.c d=>uE x fun c _ _=>OZ c d
  |.neg i=>TV x fun o y _=>TZ o&&uE y fun c _ _=>JO c fun j=>decide (j=(i:Int)+1)
  |.var y=>iN x fun z _=>ky z y&&TR sc z
  |.oY f=>iN x fun z _=>ky z (N.fn f)&&gQ sc z
  |.OQ g=>iN x fun z _=>ky z (match g with|0=>N.tab|_=>N.tup)&&gQ sc z
  |.attr o a=>sC x fun v b _=>uC v&&(eZ b a&&(ua a N.attrs&&aH N n sc o v))
  |.sub o i=>yo x fun v w _=>n5 w&&(aH N n sc o v&&aH N n sc i w)
  |.DM o lo hi=>yo x fun v s _=>zf s fun l u st _=>vh st (aH N n sc o v&&(MV (aH N n sc) lo l&&MV (aH N n sc) hi u))
  |.Bf o k=>DY x fun v vp ln _ v' _ _ w _ _ _=>eZ ln yn&&(!eZ ln m5&&(gQ sc ln&&(eZ v v'&&(aH N n sc o (.Name v vp)&&(aH N n sc k w&&zh o k)))))
  |.bin op l r=>JH x fun v o w _=>Hg op o&&(aH N n sc l v&&aH N n sc r w)
  |.cmp op l r=>OY x fun v os ws _=>yt os fun o=>yt ws fun w=>Ql op o&&(aH N n sc l v&&(aH N n sc r w&& !isSet w))
  |.cx l r=>O1 x fun v w _=>aH N n sc l v&&aH N n sc r w
  |.A7 l r=>T4 x fun v w _=>aH N n sc l v&&aH N n sc r w
  |.ite c t e=>TX x fun a b d _=>aH N n sc c a&&(aH N n sc t b&&aH N n sc e d)
  |.tup l=>yr x fun xs _ _=>jE (aH N n sc) l xs&&decide (l.length<=100)
  |.lst _ l=>JI x fun xs _=>jE (aH N n sc) l xs&&decide (l.length<=100)
  |.G9 _ ks l=>JK x fun ys xs _=>F9 ks ys&&(jE (aH N n sc) l xs&&(decide (ks.length=l.length)&&(decide (l.length<=15)&&distinct ks)))
  |.call f l=>kP x fun z _ xs _=>ky z (N.fn f)&&(gQ sc z&&(jE (aH N n sc) l xs&&decide (l.length<=20)))
  |.tw o l=>zg x fun f xs ks _=>yo f fun v w q=>Mz ks (aH N n sc o (.Subscript v w q)&&(jE (aH N n sc) l xs&&decide (l.length<=20)))
  |.new k _ l=>kP x fun z _ xs _=>ky z (N.cls k)&&(gQ sc z&&(jE (aH N n sc) l xs&&decide (l.length<=20)))
  |.gM e=>aH N n sc e x
  |.len e=>kP x fun z _ xs _=>yt xs fun v=>ky z yn&&(gQ sc z&&jE (aH N n sc) [e] [v])
  |.sg e=>kP x fun z _ xs _=>yt xs fun v=>ky z zc&&(gQ sc z&&jE (aH N n sc) [e] [v])
  |.str e=>kP x fun z _ xs _=>yt xs fun v=>ky z JG&&(gQ sc z&&jE (aH N n sc) [e] [v])
  |.sj e=>kP x fun z _ xs _=>yt xs fun v=>ky z DW&&(gQ sc z&&jE (aH N n sc) [e] [v])
  |.oZ e=>kP x fun z _ xs _=>yt xs fun v=>ky z zd&&(gQ sc z&&jE (aH N n sc) [e] [v])
  |.append o y=>pg x fun v m ap as p=>yt as fun w=>eZ m Bv&&((ap.endLine==p.line)&&(jE (aH N n sc) [y] [w]&&(aH N n sc o v&&pd v)))
  |.extend o y=>pg x fun v m ap as p=>yt as fun w=>eZ m Bw&&((ap.endLine==p.line)&&(jE (aH N n sc) [y] [w]&&(aH N n sc o v&&pd v)))
  |.pop o=>pg x fun v m ap as p=>Mz as (eZ m OW&&((ap.endLine==p.line)&&(aH N n sc o v&&pd v)))
  |.update o y=>pg x fun v m ap as p=>yt as fun w=>eZ m Bx&&((ap.endLine==p.line)&&(jE (aH N n sc) [y] [w]&&(aH N n sc o v&&pd v)))
  |.get o k y=>pg x fun v m ap as p=>TY as fun w u=>eZ m OX&&((ap.endLine==p.line)&&(jE (aH N n sc) [k,y] [w,u]&&(aH N n sc o v&&pd v)))
  |.comp elt tg it cond fv=>JM x fun y gs scope _=>yt gs fun g=>T5 tg g&&(!isSet y&&(aH N n sc it g.iter&&(aH N n (pN sc scope.names) elt y&&(sy sc scope.names tg fv&&(vj (aH N n (pN sc scope.names)) cond g.ifs&&T6 scope.kind)))))
noncomputable def vl(sc:Sc):List Str->List Expr->Bool
 |[],[]=>true
 |x::xs,y::ys=>iN y (fun y _=>eZ y x&&fi sc y)&&vl sc xs ys
 |_,_=>false
noncomputable def tG(as:List Str)(ck:E->Expr->Bool):List (E×Str)->List Expr->Bool
 |[],[]=>true
 |p::l,y::xs=>sC y (fun v b _=>eZ b p.2&&(ua p.2 as&&ck p.1 v))&&tG as ck l xs
 |_,_=>false
noncomputable def vm(sc:Sc):List Str->Bool
 |[]=>true
 |x::l=>(match dF sc x with|some .local=>true|_=>false)&&vm sc l
noncomputable def zi(N:Nm)(n:Nat)(sc:Sc)(g:Tg)(e:Expr):Bool:=match g with
 |.x x=>iN e fun y _=>eZ y x&&fi sc y
 |.attr o a=>sC e fun v b _=>eZ b a&&(ua a N.attrs&&aH N n sc o v)
 |.sub o i=>yo e fun v w _=>n5 w&&(aH N n sc o v&&aH N n sc i w)
 |.cut o k=>DY e fun v vp ln _ v' _ _ w _ _ _=>eZ ln yn&&(!eZ ln m5&&(gQ sc ln&&(eZ v v'&&(aH N n sc o (.Name v vp)&&(aH N n sc k w&&zh o k)))))
 |.tup xs=>yr e fun ys _ _=>vl sc xs ys&&distinct xs
 |.atts l=>yr e fun ys _ _=>tG N.attrs (aH N n sc) l ys
noncomputable def qR(ck:T->Stmt->Bool):List T->List Stmt->Bool
 |[],[]=>true
 |t::ts,s::ss=>ck t s&&qR ck ts ss
 |_,_=>false
noncomputable def T7(sc:Sc)(xs:List Str)(e:Expr):Bool:=match e with
 |.Name y _=>yt xs fun x=>eZ y x&&fi sc y
 |.Tuple ys _ _=>vl sc xs ys&&(distinct xs&&decide (2<=xs.length))
 |_=>false
noncomputable def DZ(x:Expr):Bool:=by
 induction x using Expr.casesOn with
 |Tuple a b c=>exact true
 |List a b=>exact true
 |_=>exact false
noncomputable def Ga(x:Stmt)(k:Expr->Pos->Bool):Bool:=by
 induction x using Stmt.casesOn with
 |Expr a b=>exact k a b
 |_=>exact false
@[elab_as_elim] theorem Hh{motive:Stmt->Prop}{x:Stmt}{k:Expr->Pos->Bool}(h:Ga x k=true)(H:∀a b,k a b=true->motive (.Expr a b)):motive x:=by
 revert h
 induction x using Stmt.casesOn with
 |Expr a b=>exact H a b
 |_=>exact ff
noncomputable def O2(x:Stmt)(k:Option Expr->Pos->Bool):Bool:=by
 induction x using Stmt.casesOn with
 |Return a b=>exact k a b
 |_=>exact false
@[elab_as_elim] theorem MZ{motive:Stmt->Prop}{x:Stmt}{k:Option Expr->Pos->Bool}(h:O2 x k=true)(H:∀a b,k a b=true->motive (.Return a b)):motive x:=by
 revert h
 induction x using Stmt.casesOn with
 |Return a b=>exact H a b
 |_=>exact ff
noncomputable def JQ(x:Stmt)(k:List Expr->Expr->Pos->Bool):Bool:=by
 induction x using Stmt.casesOn with
 |Assign a b c=>exact k a b c
 |_=>exact false
@[elab_as_elim] theorem Gb{motive:Stmt->Prop}{x:Stmt}{k:List Expr->Expr->Pos->Bool}(h:JQ x k=true)(H:∀a b c,k a b c=true->motive (.Assign a b c)):motive x:=by
 revert h
 induction x using Stmt.casesOn with
 |Assign a b c=>exact H a b c
 |_=>exact ff
noncomputable def JR(x:Stmt)(k:Expr->Operator->Expr->Pos->Bool):Bool:=by
 induction x using Stmt.casesOn with
 |AugAssign a b c d=>exact k a b c d
 |_=>exact false
@[elab_as_elim] theorem Ge{motive:Stmt->Prop}{x:Stmt}{k:Expr->Operator->Expr->Pos->Bool}(h:JR x k=true)(H:∀a b c d,k a b c d=true->motive (.AugAssign a b c d)):motive x:=by
 revert h
 induction x using Stmt.casesOn with
 |AugAssign a b c d=>exact H a b c d
 |_=>exact ff
noncomputable def O3(x:Stmt)(k:Expr->List Stmt->List Stmt->Pos->Bool):Bool:=by
 induction x using Stmt.casesOn with
 |If a b c d=>exact k a b c d
 |_=>exact false
@[elab_as_elim] theorem M1{motive:Stmt->Prop}{x:Stmt}{k:Expr->List Stmt->List Stmt->Pos->Bool}(h:O3 x k=true)(H:∀a b c d,k a b c d=true->motive (.If a b c d)):motive x:=by
 revert h
 induction x using Stmt.casesOn with
 |If a b c d=>exact H a b c d
 |_=>exact ff
noncomputable def T8(x:Stmt)(k:Expr->List Stmt->List Stmt->Pos->Bool):Bool:=by
 induction x using Stmt.casesOn with
 |While a b c d=>exact k a b c d
 |_=>exact false
@[elab_as_elim] theorem Qp{motive:Stmt->Prop}{x:Stmt}{k:Expr->List Stmt->List Stmt->Pos->Bool}(h:T8 x k=true)(H:∀a b c d,k a b c d=true->motive (.While a b c d)):motive x:=by
 revert h
 induction x using Stmt.casesOn with
 |While a b c d=>exact H a b c d
 |_=>exact ff
noncomputable def JS(x:Stmt)(k:Expr->Expr->List Stmt->List Stmt->Pos->Bool):Bool:=by
 induction x using Stmt.casesOn with
 |For a b c d e=>exact k a b c d e
 |_=>exact false
@[elab_as_elim] theorem JT{motive:Stmt->Prop}{x:Stmt}{k:Expr->Expr->List Stmt->List Stmt->Pos->Bool}(h:JS x k=true)(H:∀a b c d e,k a b c d e=true->motive (.For a b c d e)):motive x:=by
 revert h
 induction x using Stmt.casesOn with
 |For a b c d e=>exact H a b c d e
 |_=>exact ff
noncomputable def JU(x:Stmt)(k:Pos->Bool):Bool:=by
 induction x using Stmt.casesOn with
 |Pass a=>exact k a
 |_=>exact false
@[elab_as_elim] theorem JV{motive:Stmt->Prop}{x:Stmt}{k:Pos->Bool}(h:JU x k=true)(H:∀a,k a=true->motive (.Pass a)):motive x:=by
 revert h
 induction x using Stmt.casesOn with
 |Pass a=>exact H a
 |_=>exact ff
noncomputable def JW(x:Stmt)(k:Pos->Bool):Bool:=by
 induction x using Stmt.casesOn with
 |Continue a=>exact k a
 |_=>exact false
@[elab_as_elim] theorem JX{motive:Stmt->Prop}{x:Stmt}{k:Pos->Bool}(h:JW x k=true)(H:∀a,k a=true->motive (.Continue a)):motive x:=by
 revert h
 induction x using Stmt.casesOn with
 |Continue a=>exact H a
 |_=>exact ff
noncomputable def JY(x:E):Bool:=by
 induction x using E.casesOn with
 |comp a b c d e=>exact true
 |_=>exact false
noncomputable def Gf(x:Expr):Bool:=by
 induction x using Expr.casesOn with
 |ListComp a b c d=>exact true
 |_=>exact false
noncomputable def isX:Tg->Bool
 |.x _=>true
 |_=>false
noncomputable def M3:Tg->Bool
 |.atts l=>decide (0<l.length)
 |_=>false
@[elab_as_elim] theorem JZ{motive:E->Prop}{e:E}(h:JY e=true)(H:∀a b c d f,motive (.comp a b c d f)):motive e:=by
 revert h
 induction e using E.casesOn with
 |comp a b c d e=>exact fun _=>H a b c d e
 |_=>exact ff
theorem J0{e e':E}(h:Jz e=some e'):e=.sg e':=by
 revert h
 induction e using E.casesOn with
 |sg e=>exact fun h=>Option.some.inj h▸rfl
 |_=>exact Bh
@[elab_as_elim] theorem Hi{motive:Expr->Prop}{e:Expr}(h:Gf e=true)(H:∀a b c d,motive (.ListComp a b c d)):motive e:=by
 revert h
 induction e using Expr.casesOn with
 |ListComp a b c d=>exact fun _=>H a b c d
 |_=>exact ff
@[elab_as_elim] theorem Hj{motive:Expr->Prop}{e:Expr}(h:uC e=true)(H:∀a b,motive (.Name a b)):motive e:=by
 revert h
 induction e using Expr.casesOn with
 |Name a b=>exact fun _=>H a b
 |_=>exact ff
@[elab_as_elim] theorem T9{motive:Tg->Prop}{e:Tg}(h:isX e=true)(H:∀a,motive (.x a)):motive e:=by
 revert h
 induction e using Tg.casesOn with
 |x a=>exact fun _=>H a
 |_=>exact ff
theorem A7{a b:Bool}(h:(a||b)=true):a=true\/b=true:=Bool.or_eq_true_iff.mp h
noncomputable def Ua(tg:Tg)(e:E)(x v:Expr):Bool:=
 (uC x&&(!uD v||(JY e&&(Gf v&&isX tg))))||(!uC x&&(!uD v&&(!DZ x||(!DZ v||M3 tg))))
noncomputable def J1(ys:List Expr):Bool:=TY ys fun a b=>iN a fun _ p1=>iN b fun _ p2=>p1.line==p2.line
noncomputable def isStar(x:Expr):Bool:= !notStar x
noncomputable def lZ(N:Nm):Nat->Sc->T->Stmt->Bool
 |0,_,_,_=>false
 |n+1,sc,t,s=>match t with
  |.expr e=>Ga s fun v _=>aH N n sc e v&& !uD v
  |.pass=>JU s fun _=>true
  |.cont=>JW s fun _=>true
  |.ret e=>O2 s fun v _=>MV (aH N n sc) e v
  |.asg tg e=>JQ s fun ts v _=>yt ts fun x=>zi N n sc tg x&&(aH N n sc e v&&Ua tg e x v)
  |.Mw xs e=>JQ s fun ts v _=>yt ts fun x=>yr x fun ys _ _=>yr v fun vs k' p'=>vl sc xs ys&&(distinct xs&&(vm sc xs&&(aH N n sc e (.Tuple vs k' p')&&(decide (xs.length=2)&&(decide (vs.length=2)&&
    (J1 ys&&(!(vs.all (foldedForSure 8))&&(!(vs.all (constantsAlone 8))&& !vs.any isStar))))))))
  |.aug x op e=>JR s fun t o v _=>iN t fun y _=>eZ y x&&(fi sc y&&(Hg op o&&aH N n sc e v))
  |.DN o a op e=>JR s fun t o' w _=>sC t fun v b _=>eZ b a&&(ua a N.attrs&&(Hg op o'&&(aH N n sc o v&&aH N n sc e w)))
  |.fL c a b=>O3 s fun x y z _=>aH N n sc c x&&(qR (lZ N n sc) a y&&qR (lZ N n sc) b z)
  |.PY c b=>T8 s fun x y e _=>Mz e (aH N n sc c x&&qR (lZ N n sc) b y)
  |.gN tg it b=>JS s fun x i y e _=>Mz e (T7 sc tg x&&(aH N n sc it i&&(!isSet i&&qR (lZ N n sc) b y)))
  |.no=>match s with
   |.Raise ..=>true
   |_=>false
end jB
namespace jB
open PySem
noncomputable abbrev dw:Str:=⟨⟨[115,101,108,102]⟩⟩
noncomputable abbrev bT:Str:=⟨⟨[114,111,119,115]⟩⟩
noncomputable abbrev n6:Str:=⟨⟨[115,111,117,114,99,101]⟩⟩
noncomputable abbrev lO:Str:=⟨⟨[99,111,100,101,115]⟩⟩
noncomputable abbrev sD:Str:=⟨⟨[98,97,114,114,105,101,114]⟩⟩
noncomputable abbrev m7:Str:=⟨⟨[111,112,101,114,97,116,105,111,110,115]⟩⟩
noncomputable abbrev s_row:Str:=⟨⟨[114,111,119]⟩⟩
noncomputable abbrev zj:Str:=⟨⟨[115,104,97,112,101]⟩⟩
noncomputable abbrev d4:Str:=⟨⟨[116,97,107,101,110]⟩⟩
noncomputable abbrev eM:Str:=⟨⟨[108,101,102,116]⟩⟩
noncomputable abbrev bM:Str:=⟨⟨[112,97,114,116,115]⟩⟩
noncomputable abbrev aW:Str:=⟨⟨[97,116]⟩⟩
noncomputable abbrev Ub:Str:=⟨⟨[110]⟩⟩
noncomputable abbrev s_w:Str:=⟨⟨[119]⟩⟩
noncomputable abbrev sE:Str:=⟨⟨[101,108,115,101]⟩⟩
noncomputable abbrev cf:Str:=⟨⟨[102,111,117,110,100]⟩⟩
noncomputable abbrev MA:Str:=⟨⟨[106]⟩⟩
noncomputable abbrev Uc:Str:=⟨⟨[74]⟩⟩
noncomputable abbrev l4:Str:=⟨⟨[109,97,100,101]⟩⟩
noncomputable abbrev kz:Str:=⟨⟨[117,115,101,100]⟩⟩
noncomputable abbrev fT:Str:=⟨⟨[112,108,97,99,101,115]⟩⟩
noncomputable abbrev eC:Str:=⟨⟨[99,111,117,110,116]⟩⟩
noncomputable abbrev eg:Str:=⟨⟨[116,97,98,108,101,115]⟩⟩
noncomputable abbrev dn:Str:=⟨⟨[109,97,114,107,115]⟩⟩
noncomputable abbrev aN:Str:=⟨⟨[104,101,105,103,104,116]⟩⟩
noncomputable abbrev c9:Str:=⟨⟨[98,108,111,99,107,115]⟩⟩
noncomputable abbrev uF:Str:=⟨⟨[108,111,111,112,115]⟩⟩
noncomputable abbrev iW:Str:=⟨⟨[97,99,99,101,112,116,115]⟩⟩
noncomputable abbrev j0:Str:=⟨⟨[101,110,100,101,100]⟩⟩
noncomputable abbrev j1:Str:=⟨⟨[108,97,98,101,108]⟩⟩
noncomputable abbrev eX:Str:=⟨⟨[109,97,114,107]⟩⟩
noncomputable abbrev af:Str:=⟨⟨[103,101,110]⟩⟩
noncomputable abbrev ph:Str:=⟨⟨[110,111,100,101,115]⟩⟩
noncomputable abbrev bh:Str:=⟨⟨[110,111,100,101]⟩⟩
noncomputable abbrev vn:Str:=⟨⟨[114,101,102,117,115,101]⟩⟩
noncomputable abbrev l5:Str:=⟨⟨[110,111,32,115,117,99,104,32,101,120,112,114,101,115,115,105,111,110]⟩⟩
noncomputable abbrev qS:Str:=⟨⟨[112,108,97,99,101,118,97,108,117,101]⟩⟩
noncomputable abbrev da:Str:=⟨⟨[116,97,114,103,101,116]⟩⟩
noncomputable abbrev m8:Str:=⟨⟨[115,116,101,112]⟩⟩
noncomputable abbrev aD:Str:=⟨⟨[115,116,109,116]⟩⟩
noncomputable abbrev fk:Str:=⟨⟨[115,116,97,116,101,109,101,110,116,115]⟩⟩
noncomputable abbrev bo:Str:=⟨⟨[115,116,109,116,115]⟩⟩
noncomputable abbrev zk:Str:=⟨⟨[100,101,99,108]⟩⟩
noncomputable abbrev gY:Str:=⟨⟨[100,101,99,108,115]⟩⟩
noncomputable abbrev ba:Str:=⟨⟨[108,105,110,101]⟩⟩
noncomputable abbrev lq:Str:=⟨⟨[100,101,99,108,97,114,97,116,105,111,110,115]⟩⟩
noncomputable abbrev vq:Str:=⟨⟨[98,101,102,111,114,101]⟩⟩
noncomputable abbrev qi:Str:=⟨⟨[111,112,101,110,95,110,111,119]⟩⟩
noncomputable abbrev sF:Str:=⟨⟨[116,117,114,110]⟩⟩
noncomputable abbrev fM:Str:=⟨⟨[101,110,100,98,108,111,99,107]⟩⟩
noncomputable abbrev J2:Str:=⟨⟨[100,114,111,112]⟩⟩
noncomputable abbrev sG:Str:=⟨⟨[104,97,110,100,108,101,114]⟩⟩
noncomputable abbrev cV:Str:=⟨⟨[104,97,110,100,108,101,114,115]⟩⟩
noncomputable abbrev iX:Str:=⟨⟨[111,117,116]⟩⟩
noncomputable abbrev qU:Str:=⟨⟨[97,114,109]⟩⟩
noncomputable abbrev s_end:Str:=⟨⟨[101,110,100]⟩⟩
noncomputable abbrev jL:Str:=⟨⟨[106,117,109,112]⟩⟩
noncomputable abbrev fU:Str:=⟨⟨[109,111,100,101]⟩⟩
noncomputable abbrev m9:Str:=⟨⟨[97,114,103,115]⟩⟩
noncomputable abbrev xF:Str:=⟨⟨[105,110]⟩⟩
noncomputable abbrev fV:Str:=⟨⟨[97,99,116,117,97,108]⟩⟩
noncomputable abbrev dc:Str:=⟨⟨[97,99,116,117,97,108,111,117,116]⟩⟩
noncomputable abbrev jM:Str:=⟨⟨[98,111,100,121]⟩⟩
noncomputable abbrev bH:Str:=⟨⟨[119,111,114,100]⟩⟩
noncomputable abbrev gk:Str:=⟨⟨[98,108,111,99,107]⟩⟩
noncomputable abbrev l6:Str:=⟨⟨[112,97,114,116]⟩⟩
noncomputable abbrev BB:Str:=⟨⟨[114,101,115,117,108,116]⟩⟩
noncomputable abbrev qj:Str:=⟨⟨[110,117,108,108]⟩⟩
noncomputable abbrev vr:Str:=⟨⟨[97,115,115,105,103,110]⟩⟩
noncomputable abbrev Qq:Str:=⟨⟨[105,102]⟩⟩
noncomputable abbrev D1:Str:=⟨⟨[99,97,115,101]⟩⟩
noncomputable abbrev D2:Str:=⟨⟨[108,111,111,112]⟩⟩
noncomputable abbrev D3:Str:=⟨⟨[101,120,105,116]⟩⟩
noncomputable abbrev qV:Str:=⟨⟨[114,97,105,115,101]⟩⟩
noncomputable abbrev mA:Str:=⟨⟨[114,101,116,117,114,110]⟩⟩
noncomputable abbrev cI:Str:=⟨⟨[102,97,109,105,108,121]⟩⟩
noncomputable abbrev mB:Str:=⟨⟨[112,114,101,102,105,120]⟩⟩
noncomputable abbrev nc:Str:=⟨⟨[101,110,116,114,121]⟩⟩
noncomputable abbrev gZ:Str:=⟨⟨[104,97,115,95,102,97,109,105,108,121]⟩⟩
noncomputable abbrev cu:Str:=⟨⟨[101,110,116,114,121,99,97,108,108]⟩⟩
noncomputable abbrev gf:Str:=⟨⟨[101,110,100,97,99,99,101,112,116]⟩⟩
noncomputable abbrev sH:Str:=⟨⟨[102,111,114,109,97,108,115]⟩⟩
noncomputable abbrev iC:Str:=⟨⟨[110,111,119,97,105,116]⟩⟩
noncomputable abbrev bw:Str:=⟨⟨[97,99,99,101,112,116]⟩⟩
noncomputable abbrev ng:Str:=⟨⟨[119,105,116,104,95,97,98,111,114,116]⟩⟩
noncomputable abbrev kQ:Str:=⟨⟨[104,97,115,95,112,114,101,102,105,120]⟩⟩
noncomputable abbrev cz:Str:=⟨⟨[114,101,113,117,101,117,101]⟩⟩
noncomputable abbrev fp:Str:=⟨⟨[103,117,97,114,100]⟩⟩
noncomputable abbrev cJ:Str:=⟨⟨[107,105,110,100]⟩⟩
noncomputable abbrev bI:Str:=⟨⟨[100,97,116,97]⟩⟩
noncomputable abbrev iD:Str:=⟨⟨[97,108,116,101,114,110,97,116,105,118,101]⟩⟩
noncomputable abbrev qW:Str:=⟨⟨[99,108,111,115,101,100]⟩⟩
noncomputable abbrev mE:Str:=⟨⟨[105,102,102,97,108,115,101]⟩⟩
noncomputable abbrev bN:Str:=⟨⟨[111,112,101,110,97,99,99,101,112,116]⟩⟩
noncomputable abbrev bE:Str:=⟨⟨[100,101,108,97,121]⟩⟩
noncomputable abbrev de:Str:=⟨⟨[111,112,101,110,100,101,108,97,121]⟩⟩
noncomputable abbrev eG:Str:=⟨⟨[111,112,101,110,101,110,100]⟩⟩
noncomputable abbrev aC:Str:=⟨⟨[97,108,116,101,114,110,97,116,105,118,101,115]⟩⟩
noncomputable abbrev dp:Str:=⟨⟨[111,116,104,101,114]⟩⟩
noncomputable abbrev dA:Str:=⟨⟨[111,116,104,101,114,119,105,115,101]⟩⟩
noncomputable abbrev qk:Str:=⟨⟨[111,112,101,110]⟩⟩
noncomputable abbrev bB:Str:=⟨⟨[115,101,108,101,99,116]⟩⟩
noncomputable abbrev cO:Str:=⟨⟨[98,101,103,105,110,97,99,99,101,112,116]⟩⟩
noncomputable abbrev qX:Str:=⟨⟨[104,111,119]⟩⟩
noncomputable abbrev jN:Str:=⟨⟨[108,97,116,101]⟩⟩
noncomputable abbrev zl:Str:=⟨⟨[117,110,116,105,108]⟩⟩
noncomputable abbrev dJ:Str:=⟨⟨[116,114,121,99,97,108,108]⟩⟩
noncomputable abbrev s_call:Str:=⟨⟨[99,97,108,108]⟩⟩
noncomputable abbrev d5:Str:=⟨⟨[97,98,111,114,116]⟩⟩
noncomputable abbrev vt:Str:=⟨⟨[110,97,109,101]⟩⟩
noncomputable abbrev sI:Str:=⟨⟨[105,115,95,116,121,112,101]⟩⟩
noncomputable abbrev sJ:Str:=⟨⟨[101,110,116,114,105,101,115]⟩⟩
noncomputable abbrev j2:Str:=⟨⟨[99,111,110,115,116]⟩⟩
noncomputable abbrev iE:Str:=⟨⟨[111,98,106]⟩⟩
noncomputable abbrev pZ:Str:=⟨⟨[108,105,116]⟩⟩
noncomputable abbrev D4:Str:=⟨⟨[100,105,115,99]⟩⟩
noncomputable abbrev vu:Str:=⟨⟨[99,111,109,112]⟩⟩
noncomputable abbrev qY:Str:=⟨⟨[105,110,100,101,120]⟩⟩
noncomputable abbrev qZ:Str:=⟨⟨[115,108,105,99,101]⟩⟩
noncomputable abbrev q0:Str:=⟨⟨[100,101,114,101,102]⟩⟩
noncomputable abbrev nh:Str:=⟨⟨[112,108,97,99,101]⟩⟩
noncomputable abbrev D5:Str:=⟨⟨[113,117,97,108]⟩⟩
noncomputable abbrev D6:Str:=⟨⟨[99,111,110,118]⟩⟩
noncomputable abbrev ay:Str:=⟨⟨[100,101,99,107]⟩⟩
noncomputable abbrev ql:Str:=⟨⟨[115,112,111,116]⟩⟩
noncomputable abbrev gR:Str:=⟨⟨[115,99,114,105,112,116]⟩⟩
noncomputable abbrev vy:Str:=⟨⟨[109,97,110,121]⟩⟩
noncomputable abbrev Ba:Str:=⟨⟨[113]⟩⟩
noncomputable abbrev SE:Str:=⟨⟨[122]⟩⟩
noncomputable abbrev df:Str:=⟨⟨[95]⟩⟩
noncomputable abbrev WB:Str:=⟨⟨[101]⟩⟩
noncomputable abbrev s_p:Str:=⟨⟨[112]⟩⟩
noncomputable abbrev dW:Str:=⟨⟨[100,101,101,112]⟩⟩
noncomputable abbrev bg:Str:=⟨⟨[105,115,95,115,101,114,118,101,100]⟩⟩
noncomputable abbrev kg:Str:=⟨⟨[116,101,114,109,105,110,97,116,101]⟩⟩
noncomputable abbrev ip:Str:=⟨⟨[119,97,121]⟩⟩
noncomputable abbrev aI:Str:=⟨⟨[]⟩⟩
noncomputable abbrev qm:Str:=⟨⟨[101,48]⟩⟩
noncomputable abbrev aM:Str:=⟨⟨[98,111,111,107]⟩⟩
noncomputable abbrev qn:Str:=⟨⟨[116,111,108,100]⟩⟩
noncomputable abbrev vz:Str:=⟨⟨[116,101,120,116]⟩⟩
noncomputable abbrev q8:Str:=⟨⟨[97,115,107,101,100]⟩⟩
noncomputable abbrev g8:Str:=⟨⟨[97,110,115,119,101,114,115]⟩⟩
noncomputable abbrev s_stack:Str:=⟨⟨[115,116,97,99,107]⟩⟩
noncomputable abbrev aQ:Str:=⟨⟨[32]⟩⟩
noncomputable abbrev n7:Str:=⟨⟨[99,111,110,115,116,32,40,48,44,41]⟩⟩
noncomputable abbrev eF:Str:=⟨⟨[115,101,108,101,99,116,32]⟩⟩
noncomputable abbrev BC:Str:=⟨⟨[99,111,117,110,116,115]⟩⟩
noncomputable abbrev zm:Str:=⟨⟨[110,101,101,100,115]⟩⟩
noncomputable abbrev fb:Str:=⟨⟨[101,110,100,98,111,100,121]⟩⟩
noncomputable abbrev ni:Str:=⟨⟨[103,111,97,108]⟩⟩
noncomputable abbrev bz:Str:=⟨⟨[110,111,32,97,108,116,101,114,110,97,116,105,118,101]⟩⟩
noncomputable abbrev iO:Str:=⟨⟨[99,111,110,115,116,32]⟩⟩
noncomputable abbrev kh:Str:=⟨⟨[111,98,106,32]⟩⟩
noncomputable abbrev q9:Str:=⟨⟨[112,97,105,114,115]⟩⟩
noncomputable abbrev dg:Str:=⟨⟨[97,99,116,117,97,108,32,40,41,32]⟩⟩
noncomputable abbrev dX:Str:=⟨⟨[116,97,114,103,101,116,32,40,41,32]⟩⟩
noncomputable abbrev nj:Str:=⟨⟨[112,108,97,99,101,32]⟩⟩
noncomputable abbrev dh:Str:=⟨⟨[97,99,116,117,97,108,111,117,116,32,40,41,32]⟩⟩
noncomputable abbrev Gg:Str:=⟨⟨[97,104,101,97,100]⟩⟩
noncomputable abbrev fW:Str:=⟨⟨[101,110,116,114,121,99,97,108,108,32]⟩⟩
noncomputable abbrev g9:Str:=⟨⟨[116,114,121,99,97,108,108,32]⟩⟩
noncomputable abbrev dy:Str:=⟨⟨[110,111,119,97,105,116,32,40,41,32,91,93]⟩⟩
noncomputable abbrev gw:Str:=⟨⟨[111,112,101,110,97,99,99,101,112,116,32]⟩⟩
noncomputable abbrev jg:Str:=⟨⟨[111,112,101,110,100,101,108,97,121,32]⟩⟩
noncomputable abbrev gF:Str:=⟨⟨[111,112,101,110,101,110,100,32,40,41,32]⟩⟩
noncomputable abbrev dj:Str:=⟨⟨[98,101,103,105,110,97,99,99,101,112,116,32]⟩⟩
noncomputable abbrev dC:Str:=⟨⟨[32,91,93]⟩⟩
noncomputable abbrev dY:Str:=⟨⟨[101,110,100,97,99,99,101,112,116,32,40,41,32,91,93]⟩⟩
noncomputable abbrev hI:Str:=⟨⟨[115,116,101,112,32]⟩⟩
noncomputable abbrev n8:Str:=⟨⟨[97,99,99,101,112,116,32]⟩⟩
noncomputable abbrev eN:Str:=⟨⟨[98,108,111,99,107,32,40,39,39,44,41,32,91,93]⟩⟩
noncomputable abbrev fX:Str:=⟨⟨[97,114,109,32,40,41,32,91,93]⟩⟩
noncomputable abbrev gx:Str:=⟨⟨[101,110,100,98,108,111,99,107,32,40,41,32,91,93]⟩⟩
noncomputable abbrev qo:Str:=⟨⟨[100,101,108,97,121,32]⟩⟩
noncomputable abbrev cv:Str:=⟨⟨[97,98,111,114,116,32,40,41,32]⟩⟩
noncomputable abbrev hY:Str:=⟨⟨[114,101,113,117,101,117,101,32]⟩⟩
noncomputable abbrev Yg:Str:=⟨⟨[116]⟩⟩
noncomputable abbrev D7:Str:=⟨⟨[99,111,100,101]⟩⟩
noncomputable abbrev nk:Str:=⟨⟨[98,111,111,107,115]⟩⟩
noncomputable abbrev J3:Str:=⟨⟨[100,117,101]⟩⟩
noncomputable abbrev iq:Str:=⟨⟨[45]⟩⟩
noncomputable abbrev jh:Str:=⟨⟨[45,45]⟩⟩
noncomputable abbrev Yh:Str:=⟨⟨[111,112]⟩⟩
noncomputable abbrev zo:Str:=⟨⟨[45,45,45,110]⟩⟩
noncomputable abbrev J4:Str:=⟨⟨[97,116,116,114,111,102]⟩⟩
noncomputable abbrev iY:Str:=⟨⟨[45,45,110]⟩⟩
noncomputable abbrev D8:Str:=⟨⟨[116,97,115,107,97,116,116,114]⟩⟩
noncomputable abbrev D9:Str:=⟨⟨[97,99,99,101,115,115,116,111]⟩⟩
noncomputable abbrev Hk:Str:=⟨⟨[115,117,98,116,121,112,101]⟩⟩
noncomputable abbrev Ud:Str:=⟨⟨[110,101,119]⟩⟩
noncomputable abbrev M4:Str:=⟨⟨[110,101,119,111,102]⟩⟩
noncomputable abbrev Qr:Str:=⟨⟨[99,111,112,121]⟩⟩
noncomputable abbrev Hl:Str:=⟨⟨[97,114,114,97,121,111,102]⟩⟩
noncomputable abbrev BD:Str:=⟨⟨[45,45,45]⟩⟩
noncomputable abbrev Ea:Str:=⟨⟨[114,101,99,111,114,100,111,102]⟩⟩
noncomputable abbrev Eb:Str:=⟨⟨[101,120,116,101,110,100,111,102]⟩⟩
noncomputable abbrev M5:Str:=⟨⟨[99,97,108,108,102]⟩⟩
noncomputable abbrev BE:Str:=⟨⟨[100,105,115,112,97,116,99,104,102]⟩⟩
noncomputable abbrev Ec:Str:=⟨⟨[112,114,111,116,99,97,108,108]⟩⟩
noncomputable abbrev Qs:Str:=⟨⟨[45,110]⟩⟩
noncomputable abbrev BF:Str:=⟨⟨[112,108,97,99,101,99,111,109,112]⟩⟩
noncomputable abbrev zq:Str:=⟨⟨[112,108,97,99,101,105,110,100,101,120]⟩⟩
noncomputable abbrev zr:Str:=⟨⟨[112,108,97,99,101,115,108,105,99,101]⟩⟩
noncomputable abbrev zt:Str:=⟨⟨[112,108,97,99,101,100,101,114,101,102]⟩⟩
noncomputable abbrev J5:Str:=⟨⟨[105,102,116,114,117,101]⟩⟩
noncomputable abbrev Hm:Str:=⟨⟨[97,110,100,106,117,109,112]⟩⟩
noncomputable abbrev J6:Str:=⟨⟨[111,114,106,117,109,112]⟩⟩
noncomputable abbrev M6:Str:=⟨⟨[115,116,111,114,101]⟩⟩
noncomputable abbrev BG:Str:=⟨⟨[99,104,111,111,115,101]⟩⟩
noncomputable abbrev J7:Str:=⟨⟨[45,74]⟩⟩
noncomputable abbrev Ed:Str:=⟨⟨[102,111,114,98,101,103,105,110]⟩⟩
noncomputable abbrev yv:Str:=⟨⟨[45,45,106]⟩⟩
noncomputable abbrev Hn:Str:=⟨⟨[102,111,114,110,101,120,116]⟩⟩
noncomputable abbrev M7:Str:=⟨⟨[114,111,117,110,100]⟩⟩
noncomputable abbrev Qt:Str:=⟨⟨[112,97,99,107]⟩⟩
noncomputable abbrev Ho:Str:=⟨⟨[101,110,100,112,97,99,107]⟩⟩
noncomputable abbrev BH:Str:=⟨⟨[101,110,100,115,117,98]⟩⟩
noncomputable abbrev vA:Str:=⟨⟨[101,110,100,101,110,116,114,121]⟩⟩
noncomputable abbrev vB:Str:=⟨⟨[101,110,100,100,101,99,108,115]⟩⟩
noncomputable abbrev vC:Str:=⟨⟨[101,110,100,118,97,108,117,101]⟩⟩
noncomputable abbrev Ue:Str:=⟨⟨[115,117,98]⟩⟩
noncomputable abbrev M8:Str:=⟨⟨[99,97,108,108,112]⟩⟩
noncomputable abbrev BI:Str:=⟨⟨[100,105,115,112,97,116,99,104,112]⟩⟩
noncomputable abbrev BJ:Str:=⟨⟨[98,101,103,105,110,99,101,108,108]⟩⟩
noncomputable abbrev Ee:Str:=⟨⟨[105,110,105,116,99,101,108,108]⟩⟩
noncomputable abbrev BK:Str:=⟨⟨[102,105,114,115,116,99,101,108,108]⟩⟩
noncomputable abbrev zu:Str:=⟨⟨[108,97,121,115,117,98,116,121,112,101]⟩⟩
noncomputable abbrev Hp:Str:=⟨⟨[108,97,121,116,121,112,101]⟩⟩
noncomputable abbrev J8:Str:=⟨⟨[108,97,121,115,117,98]⟩⟩
noncomputable abbrev Hq:Str:=⟨⟨[108,97,121,98,111,100,121]⟩⟩
noncomputable abbrev Hr:Str:=⟨⟨[108,97,121,112,114,111,116]⟩⟩
noncomputable abbrev Ef:Str:=⟨⟨[108,97,121,112,108,97,99,101]⟩⟩
noncomputable abbrev M9:Str:=⟨⟨[45,110,110]⟩⟩
noncomputable abbrev jO:Str:=⟨⟨[45,110,110,119,106]⟩⟩
noncomputable abbrev Hs:Str:=⟨⟨[45,110,45]⟩⟩
noncomputable abbrev Na:Str:=⟨⟨[45,74,106]⟩⟩
noncomputable abbrev Eg:Str:=⟨⟨[45,110,110,45]⟩⟩
noncomputable abbrev Eh:Str:=⟨⟨[115,104,97,112,101,95,111,102]⟩⟩
noncomputable abbrev BL:Str:=⟨⟨[101,102,102,101,99,116,95,111,102]⟩⟩
noncomputable abbrev Ei:Str:=⟨⟨[106,117,109,112,115,95,111,102]⟩⟩
noncomputable abbrev zv:Str:=⟨⟨[119,105,116,104,95,106,117,109,112,115]⟩⟩
noncomputable abbrev Ht:Str:=⟨⟨[103,111,101,115,95,111,110]⟩⟩
noncomputable abbrev Ug:Str:=⟨⟨[108,97,121]⟩⟩
noncomputable abbrev Ej:Str:=⟨⟨[110,101,119,95,109,97,114,107]⟩⟩
noncomputable abbrev Ek:Str:=⟨⟨[112,117,116,95,109,97,114,107]⟩⟩
noncomputable abbrev xG:Str:=⟨⟨[112,108,97,99,101,100,95,114,111,119,115]⟩⟩
noncomputable abbrev zw:Str:=⟨⟨[118,97,108,117,101,95,99,111,100,101]⟩⟩
noncomputable abbrev zx:Str:=⟨⟨[112,108,97,99,101,95,99,111,100,101]⟩⟩
noncomputable abbrev xH:Str:=⟨⟨[116,97,114,103,101,116,95,99,111,100,101]⟩⟩
noncomputable abbrev sL:Str:=⟨⟨[115,116,97,116,101,109,101,110,116,95,99,111,100,101]⟩⟩
noncomputable abbrev rg:Str:=⟨⟨[115,116,97,116,101,109,101,110,116,115,95,99,111,100,101]⟩⟩
noncomputable abbrev pP:Str:=⟨⟨[100,101,99,108,97,114,97,116,105,111,110,115,95,99,111,100,101]⟩⟩
noncomputable abbrev xI:Str:=⟨⟨[98,108,111,99,107,115,95,108,101,102,116]⟩⟩
noncomputable abbrev vD:Str:=⟨⟨[104,97,110,100,108,101,100,95,99,111,100,101]⟩⟩
noncomputable abbrev vE:Str:=⟨⟨[97,99,116,117,97,108,115,95,99,111,100,101]⟩⟩
noncomputable abbrev zy:Str:=⟨⟨[119,104,111,108,101,95,99,111,100,101]⟩⟩
noncomputable abbrev BM:Str:=⟨⟨[115,116,109,116,95,110,117,108,108]⟩⟩
noncomputable abbrev xJ:Str:=⟨⟨[115,116,109,116,95,97,115,115,105,103,110]⟩⟩
noncomputable abbrev Hu:Str:=⟨⟨[115,116,109,116,95,105,102]⟩⟩
noncomputable abbrev BN:Str:=⟨⟨[115,116,109,116,95,99,97,115,101]⟩⟩
noncomputable abbrev BO:Str:=⟨⟨[115,116,109,116,95,108,111,111,112]⟩⟩
noncomputable abbrev zz:Str:=⟨⟨[108,111,111,112,95,110,97,109,101,100]⟩⟩
noncomputable abbrev BP:Str:=⟨⟨[115,116,109,116,95,101,120,105,116]⟩⟩
noncomputable abbrev zA:Str:=⟨⟨[115,116,109,116,95,98,108,111,99,107]⟩⟩
noncomputable abbrev zB:Str:=⟨⟨[115,116,109,116,95,114,97,105,115,101]⟩⟩
noncomputable abbrev zC:Str:=⟨⟨[108,101,97,118,101,95,99,111,100,101]⟩⟩
noncomputable abbrev xK:Str:=⟨⟨[115,116,109,116,95,114,101,116,117,114,110]⟩⟩
noncomputable abbrev zD:Str:=⟨⟨[112,108,97,105,110,95,103,101,110,115]⟩⟩
noncomputable abbrev xM:Str:=⟨⟨[102,97,109,105,108,121,95,99,111,100,101]⟩⟩
noncomputable abbrev BQ:Str:=⟨⟨[99,97,108,108,95,99,111,100,101]⟩⟩
noncomputable abbrev sM:Str:=⟨⟨[115,116,109,116,95,101,110,116,114,121,99,97,108,108]⟩⟩
noncomputable abbrev ub:Str:=⟨⟨[97,99,99,101,112,116,101,100,95,99,111,100,101]⟩⟩
noncomputable abbrev xN:Str:=⟨⟨[115,116,109,116,95,97,99,99,101,112,116]⟩⟩
noncomputable abbrev vF:Str:=⟨⟨[115,116,109,116,95,114,101,113,117,101,117,101]⟩⟩
noncomputable abbrev qp:Str:=⟨⟨[97,108,116,101,114,110,97,116,105,118,101,95,99,111,100,101]⟩⟩
noncomputable abbrev sN:Str:=⟨⟨[115,101,108,101,99,116,95,97,99,99,101,112,116,115]⟩⟩
noncomputable abbrev xO:Str:=⟨⟨[115,101,108,101,99,116,95,99,97,108,108]⟩⟩
noncomputable abbrev xP:Str:=⟨⟨[115,116,109,116,95,115,101,108,101,99,116]⟩⟩
noncomputable abbrev zE:Str:=⟨⟨[115,116,109,116,95,100,101,108,97,121]⟩⟩
noncomputable abbrev zF:Str:=⟨⟨[115,116,109,116,95,97,98,111,114,116]⟩⟩
noncomputable abbrev BR:Str:=⟨⟨[116,97,115,107,95,103,101,110,115]⟩⟩
noncomputable abbrev xQ:Str:=⟨⟨[118,97,108,117,101,115,95,99,111,100,101]⟩⟩
noncomputable abbrev Hv:Str:=⟨⟨[103,101,110,95,108,105,116]⟩⟩
noncomputable abbrev El:Str:=⟨⟨[103,101,110,95,110,117,108,108]⟩⟩
noncomputable abbrev Hw:Str:=⟨⟨[103,101,110,95,111,98,106]⟩⟩
noncomputable abbrev Em:Str:=⟨⟨[103,101,110,95,100,105,115,99]⟩⟩
noncomputable abbrev En:Str:=⟨⟨[103,101,110,95,99,111,109,112]⟩⟩
noncomputable abbrev BU:Str:=⟨⟨[103,101,110,95,105,110,100,101,120]⟩⟩
noncomputable abbrev BV:Str:=⟨⟨[103,101,110,95,115,108,105,99,101]⟩⟩
noncomputable abbrev BW:Str:=⟨⟨[103,101,110,95,100,101,114,101,102]⟩⟩
noncomputable abbrev BX:Str:=⟨⟨[110,97,109,101,95,103,101,110,115]⟩⟩
noncomputable abbrev BY:Str:=⟨⟨[112,108,97,99,101,95,111,98,106]⟩⟩
noncomputable abbrev zG:Str:=⟨⟨[112,108,97,99,101,95,99,111,109,112]⟩⟩
noncomputable abbrev xR:Str:=⟨⟨[112,108,97,99,101,95,105,110,100,101,120]⟩⟩
noncomputable abbrev xS:Str:=⟨⟨[112,108,97,99,101,95,115,108,105,99,101]⟩⟩
noncomputable abbrev xT:Str:=⟨⟨[112,108,97,99,101,95,100,101,114,101,102]⟩⟩
noncomputable abbrev vG:Str:=⟨⟨[112,108,97,99,101,95,119,105,116,104,105,110]⟩⟩
noncomputable abbrev zH:Str:=⟨⟨[112,108,97,99,101,95,103,101,110,115]⟩⟩
noncomputable abbrev Eo:Str:=⟨⟨[95,108,97,119,95,112,105,99,107]⟩⟩
noncomputable abbrev BZ:Str:=⟨⟨[95,108,97,119,95,116,104,105,110,103]⟩⟩
noncomputable abbrev zI:Str:=⟨⟨[95,108,97,119,95,102,97,109,105,108,121]⟩⟩
noncomputable abbrev Ep:Str:=⟨⟨[95,108,97,119,95,99,97,108,108]⟩⟩
noncomputable abbrev zJ:Str:=⟨⟨[95,108,97,119,95,97,99,99,101,112,116]⟩⟩
noncomputable abbrev B1:Str:=⟨⟨[95,108,97,119,95,103,117,97,114,100]⟩⟩
noncomputable abbrev zK:Str:=⟨⟨[95,108,97,119,95,115,101,108,101,99,116]⟩⟩
noncomputable abbrev Er:Str:=⟨⟨[95,108,97,119,95,115,111,109,101]⟩⟩
noncomputable abbrev Hx:Str:=⟨⟨[95,108,97,119,95,111,110,101]⟩⟩
noncomputable abbrev Es:Str:=⟨⟨[95,108,97,119,95,109,97,114,107]⟩⟩
noncomputable abbrev B2:Str:=⟨⟨[95,108,97,119,95,114,101,112,108,121]⟩⟩
noncomputable abbrev Hy:Str:=⟨⟨[95,108,97,119,95,114,111,119]⟩⟩
noncomputable abbrev vH:Str:=⟨⟨[95,108,97,119,95,111,112,101,110,95,114,111,119]⟩⟩
noncomputable abbrev zL:Str:=⟨⟨[95,108,97,119,95,112,108,97,121,101,100]⟩⟩
noncomputable abbrev Et:Str:=⟨⟨[95,108,97,119,95,115,97,121,115]⟩⟩
noncomputable abbrev xU:Str:=⟨⟨[95,108,97,119,95,97,99,116,117,97,108,115]⟩⟩
noncomputable abbrev uc:Str:=⟨⟨[95,108,97,119,95,119,97,108,107,95,99,97,108,108]⟩⟩
noncomputable abbrev rh:Str:=⟨⟨[95,108,97,119,95,119,97,108,107,95,115,101,108,101,99,116]⟩⟩
noncomputable abbrev Eu:Str:=⟨⟨[95,108,97,119,95,119,97,108,107]⟩⟩
noncomputable abbrev vJ:Str:=⟨⟨[95,108,97,119,95,119,97,108,107,95,111,110,101]⟩⟩
noncomputable abbrev Uh:Str:=⟨⟨[108,97,119]⟩⟩
noncomputable abbrev O4:Str:=⟨⟨[71,101,110]⟩⟩
noncomputable abbrev vK:Str:=⟨⟨[79,112,101,110,80,97,114,116]⟩⟩
noncomputable abbrev vL:Str:=⟨⟨[84,97,115,107,66,111,100,121]⟩⟩
noncomputable abbrev J9:Str:=⟨⟨[67,111,100,101]⟩⟩
noncomputable abbrev ri:Str:=⟨⟨[83,72,65,80,69,83]⟩⟩
noncomputable abbrev pj:Str:=⟨⟨[76,69,65,86,73,78,71]⟩⟩
noncomputable abbrev nq:Nat:=1
noncomputable abbrev iZ:Nat:=2
noncomputable abbrev nr:Nat:=3
noncomputable abbrev kR:Nat:=4
noncomputable abbrev Hz:Nat:=5
noncomputable abbrev cB:Nat:=8
noncomputable abbrev dz:Nat:=9
noncomputable abbrev ed:Nat:=10
noncomputable abbrev j3:Nat:=11
noncomputable abbrev bY:Nat:=12
noncomputable abbrev rj:Nat:=13
noncomputable abbrev l7:Nat:=14
noncomputable abbrev jP:Nat:=15
noncomputable abbrev bW:Nat:=16
noncomputable abbrev kH:Nat:=17
noncomputable abbrev fN:Nat:=18
noncomputable abbrev gS:Nat:=19
noncomputable abbrev n9:Nat:=20
noncomputable abbrev rn:Nat:=21
noncomputable abbrev lP:Nat:=22
noncomputable abbrev l8:Nat:=23
noncomputable abbrev sO:Nat:=24
noncomputable abbrev oa:Nat:=25
noncomputable abbrev og:Nat:=26
noncomputable abbrev oh:Nat:=28
noncomputable abbrev hZ:Nat:=29
noncomputable abbrev nu:Nat:=30
noncomputable abbrev ny:Nat:=31
noncomputable abbrev j4:Nat:=32
noncomputable abbrev ro:Nat:=33
noncomputable abbrev iF:Nat:=34
noncomputable abbrev oi:Nat:=35
noncomputable abbrev ia:Nat:=36
noncomputable abbrev ee:Nat:=37
noncomputable abbrev gA:Nat:=38
noncomputable abbrev fY:Nat:=39
noncomputable abbrev eQ:Nat:=40
noncomputable abbrev dK:Nat:=41
noncomputable abbrev dt:Nat:=42
noncomputable abbrev gC:Nat:=43
noncomputable abbrev kS:Nat:=44
noncomputable abbrev kT:Nat:=45
noncomputable abbrev tH:Nat:=46
noncomputable abbrev sP:Nat:=49
noncomputable abbrev vM:Nat:=50
noncomputable abbrev sQ:Nat:=51
noncomputable abbrev vN:Nat:=52
noncomputable abbrev vO:Nat:=53
noncomputable abbrev tI:Nat:=54
noncomputable abbrev tJ:Nat:=55
noncomputable abbrev tK:Nat:=56
noncomputable abbrev tL:Nat:=57
noncomputable abbrev oj:Nat:=58
noncomputable abbrev rp:Nat:=59
noncomputable abbrev p5:Nat:=60
noncomputable abbrev p6:Nat:=61
noncomputable abbrev p7:Nat:=62
noncomputable abbrev ji:Nat:=63
noncomputable abbrev rq:Nat:=64
noncomputable abbrev aT:Nat:=65
noncomputable abbrev fq:Nat:=66
noncomputable abbrev kU:Nat:=67
noncomputable abbrev qq:Nat:=68
noncomputable abbrev kW:Nat:=69
noncomputable abbrev lQ:Nat:=70
noncomputable abbrev jj:Nat:=71
noncomputable abbrev dM:Nat:=72
noncomputable abbrev gD:Nat:=73
noncomputable abbrev aU:Nat:=74
noncomputable abbrev gh:Nat:=75
noncomputable abbrev sR:Nat:=76
noncomputable abbrev om:Nat:=77
noncomputable abbrev gn:Nat:=78
noncomputable abbrev cW:Nat:=79
noncomputable abbrev iG:Nat:=80
noncomputable abbrev kB:Nat:=81
noncomputable abbrev aV:Nat:=82
noncomputable abbrev gp:Nat:=83
noncomputable abbrev lr:Nat:=84
noncomputable abbrev nM:Nat:=85
noncomputable def B3:List T:=[
 .asg (.attr (.var dw) bT) (.var bT),
 .asg (.attr (.var dw) n6) (.var n6),
 .asg (.attr (.var dw) lO) (.var lO),
 .asg (.attr (.var dw) sD) (.c .none),
 .asg (.attr (.var dw) m7) (.lst .fz [])]
noncomputable def Ew:List T:=[
 .fL (.cmp .yl (.sub (.var s_row) (.c (.int (.ofNat 0)))) (.OQ 0)) [.no] [],
 .asg (.x zj) (.sub (.OQ 0) (.sub (.var s_row) (.c (.int (.ofNat 0))))),
 .fL (.cmp .ne (.len (.var s_row)) (.bin .add (.c (.int (.ofNat 1))) (.len (.sub (.var zj) (.c (.int (.ofNat 2))))))) [.no] [],
 .ret (some (.var zj))]
noncomputable def B4:List T:=[
 .asg (.tup [d4,eM,bM]) (.call nq [(.var s_row)]),
 .gN [aW] (.sg (.len (.var bM))) [.fL (.cmp .eq (.sub (.var bM) (.var aW)) (.c (.str Ub))) [.aug d4 .add (.sub (.var s_row) (.bin .add (.var aW) (.c (.int (.ofNat 1)))))] [.fL (.cx (.cmp .eq (.sub (.var bM) (.var aW)) (.c (.str s_w))) (.cmp .ne (.sub (.var s_row) (.bin .add (.var aW) (.c (.int (.ofNat 1))))) (.c (.str sE)))) [.aug d4 .add (.c (.int (.ofNat 1)))] []]],
 .ret (some (.tup [(.var d4),(.var eM)]))]
noncomputable def Ey:List T:=[
 .asg (.x bM) (.sub (.call nq [(.var s_row)]) (.c (.int (.ofNat 2)))),
 .asg (.x cf) (.lst .A6 []),
 .gN [aW] (.sg (.len (.var bM))) [.fL (.cmp .eq (.sub (.var bM) (.var aW)) (.c (.str MA))) [.expr (.append (.var cf) (.sub (.var s_row) (.bin .add (.var aW) (.c (.int (.ofNat 1))))))] [.fL (.cmp .eq (.sub (.var bM) (.var aW)) (.c (.str Uc))) [.expr (.extend (.var cf) (.sub (.var s_row) (.bin .add (.var aW) (.c (.int (.ofNat 1))))))] []]],
 .ret (some (.var cf))]
noncomputable def zM:List T:=[
 .asg (.x bM) (.sub (.call nq [(.var s_row)]) (.c (.int (.ofNat 2)))),
 .asg (.x l4) (.lst .A6 [(.sub (.var s_row) (.c (.int (.ofNat 0))))]),
 .asg (.x kz) (.c (.int (.ofNat 0))),
 .gN [aW] (.sg (.len (.var bM))) [.fL (.cmp .eq (.sub (.var bM) (.var aW)) (.c (.str MA))) [.expr (.append (.var l4) (.sub (.var fT) (.var kz))),.aug kz .add (.c (.int (.ofNat 1)))] [.fL (.cmp .eq (.sub (.var bM) (.var aW)) (.c (.str Uc))) [.asg (.x eC) (.len (.sub (.var s_row) (.bin .add (.var aW) (.c (.int (.ofNat 1)))))),.expr (.append (.var l4) (.sj (.DM (.var fT) (some (.var kz)) (some (.bin .add (.var kz) (.var eC)))))),.aug kz .add (.var eC)] [.expr (.append (.var l4) (.sub (.var s_row) (.bin .add (.var aW) (.c (.int (.ofNat 1))))))]]],
 .ret (some (.oZ (.var l4)))]
noncomputable def HA:List T:=[
 .ret (some (.cmp .yl (.sub (.var s_row) (.c (.int (.ofNat 0)))) (.OQ 1)))]
noncomputable def Ez:List T:=[
 .asg (.attr (.var dw) eg) (.var eg),
 .asg (.attr (.var dw) bT) (.lst (.base [5]) []),
 .asg (.attr (.var dw) dn) (.lst (.base [6]) []),
 .asg (.attr (.var dw) aN) (.c (.int (.ofNat 0))),
 .asg (.attr (.var dw) c9) (.c (.int (.ofNat 0))),
 .asg (.attr (.var dw) uF) (.lst .fz []),
 .asg (.attr (.var dw) iW) (.lst (.base [7]) []),
 .asg (.attr (.var dw) j0) (.call dz [(.var dw)]),
 .asg (.attr (.var dw) lO) (.lst .fz [])]
noncomputable def ud:List T:=[
 .asg (.attr (.var dw) j1) (.var j1),
 .asg (.attr (.var dw) eX) (.call dz [(.var af)]),
 .asg (.attr (.var dw) aN) (.attr (.var af) aN),
 .asg (.attr (.var dw) c9) (.attr (.var af) c9)]
noncomputable def Ui:List T:=[
 .asg (.tup [d4,eM]) (.call iZ [(.var s_row)]),
 .expr (.append (.attr (.var af) bT) (.var s_row)),
 .DN (.var af) aN .add (.bin .sub (.var eM) (.var d4))]
noncomputable def EA:List T:=[
 .expr (.append (.attr (.var af) dn) (.neg 0)),
 .ret (some (.bin .sub (.len (.attr (.var af) dn)) (.c (.int (.ofNat 1)))))]
noncomputable def EB:List T:=[
 .asg (.sub (.attr (.var af) dn) (.var eX)) (.len (.attr (.var af) bT)),
 .asg (.attr (.var af) aN) (.var aN)]
noncomputable def xV:List T:=[
 .ret (some (.comp (.call kR [(.var s_row),(.comp (.sub (.attr (.var af) dn) (.var eX)) eX (.call nr [(.var s_row)]) none [af])]) s_row (.attr (.var af) bT) none [af]))]
noncomputable def zO:List T:=[
 .asg (.x ph) (.sub (.attr (.var af) eg) (.c (.str ph))),
 .fL (.cmp .isin (.sub (.var bh) (.c (.int (.ofNat 0)))) (.var ph)) [.expr (.tw (.sub (.var ph) (.sub (.var bh) (.c (.int (.ofNat 0))))) [(.var af),(.var bh)])] [.expr (.call cB [(.var af),(.tup [(.c (.str vn)),(.c (.str l5))])])]]
noncomputable def zP:List T:=[
 .asg (.x fT) (.sub (.attr (.var af) eg) (.c (.str fT))),
 .fL (.cmp .isin (.sub (.var bh) (.c (.int (.ofNat 0)))) (.var fT)) [.expr (.tw (.sub (.var fT) (.sub (.var bh) (.c (.int (.ofNat 0))))) [(.var af),(.var bh)])] [.expr (.call bY [(.var af),(.var bh)]),.expr (.call cB [(.var af),(.tup [(.c (.str qS))])])]]
noncomputable def xW:List T:=[
 .expr (.call rj [(.var af),(.var bh)]),
 .expr (.call cB [(.var af),(.tup [(.c (.str da)),(.var bh)])])]
noncomputable def sS:List T:=[
 .expr (.call cB [(.var af),(.tup [(.c (.str m8)),(.sub (.var aD) (.c (.int (.ofNat 1))))])]),
 .expr (.tw (.sub (.sub (.attr (.var af) eg) (.c (.str fk))) (.sub (.var aD) (.c (.int (.ofNat 0))))) [(.var af),(.var aD)])]
noncomputable def rt:List T:=[
 .gN [aD] (.var bo) [.expr (.call jP [(.var af),(.var aD)])]]
noncomputable def pQ:List T:=[
 .gN [zk] (.var gY) [.expr (.call cB [(.var af),(.tup [(.c (.str ba)),(.sub (.var zk) (.c (.int (.ofNat 1))))])]),.expr (.tw (.sub (.sub (.attr (.var af) eg) (.c (.str lq))) (.sub (.var zk) (.c (.int (.ofNat 0))))) [(.var af),(.var zk)])]]
noncomputable def xX:List T:=[
 .Mw [vq,qi] (.tup [(.attr (.var af) aN),(.attr (.var af) c9)]),
 .gN [sF] (.sg (.bin .sub (.attr (.var af) c9) (.var c9))) [.expr (.call cB [(.var af),(.tup [(.c (.str fM))])])],
 .PY (.cmp .gt (.attr (.var af) aN) (.var aN)) [.expr (.call cB [(.var af),(.tup [(.c (.str J2))])])],
 .asg (.atts [((.var af),aN),((.var af),c9)]) (.tup [(.var vq),(.var qi)])]
noncomputable def vP:List T:=[
 .expr (.call kH [(.var af),(.var gY)]),
 .asg (.x dn) (.comp (.call dz [(.var af)]) sG (.var cV) none [af]),
 .asg (.x iX) (.call dz [(.var af)]),
 .asg (.x aN) (.attr (.var af) aN),
 .expr (.call cB [(.var af),(.tup [(.c (.str qU)),(.comp (.sub (.var sG) (.c (.int (.ofNat 0)))) sG (.var cV) none []),(.var dn)])]),
 .expr (.call bW [(.var af),(.var bo)]),
 .expr (.call ed [(.var af),(.var j0),(.var aN)]),
 .expr (.call cB [(.var af),(.var s_end)]),
 .fL (.cx (.cmp .ne (.var cV) (.lst .fz [])) (.call Hz [(.var s_end)])) [.expr (.call cB [(.var af),(.tup [(.c (.str jL)),(.var iX)])])] [],
 .gN [aW] (.sg (.len (.var cV))) [.expr (.call ed [(.var af),(.sub (.var dn) (.var aW)),(.var aN)]),.expr (.call bW [(.var af),(.sub (.sub (.var cV) (.var aW)) (.c (.int (.ofNat 1))))]),.expr (.call cB [(.var af),(.tup [(.c (.str jL)),(.var j0)])])],
 .expr (.call ed [(.var af),(.var iX),(.var aN)])]
noncomputable def vQ:List T:=[
 .gN [fU,bh] (.var m9) [.fL (.cmp .eq (.var fU) (.c (.str xF))) [.expr (.call bY [(.var af),(.var bh)]),.expr (.call cB [(.var af),(.tup [(.c (.str fV))])])] [.expr (.call l7 [(.var af),(.var bh)]),.expr (.call cB [(.var af),(.tup [(.c (.str dc))])])]]]
noncomputable def zQ:List T:=[
 .asg (.x af) (.new 0 4 [(.var eg)]),
 .expr (.call gS [(.var af),(.attr (.var jM) gY),(.attr (.var jM) bo),(.attr (.var jM) cV),(.tup [(.var s_end)]),(.attr (.var af) j0)]),
 .ret (some (.new 3 9 [(.call j3 [(.var af)]),(.var jM),(.attr (.var af) lO)]))]
noncomputable def B5:List T:=[
 .pass]
noncomputable def zR:List T:=[
 .asg (.tup [bH,ba,j1,gY,bo,cV]) (.var aD),
 .expr (.call cB [(.var af),(.tup [(.c (.str gk)),(.var j1)])]),
 .DN (.var af) c9 .add (.c (.int (.ofNat 1))),
 .expr (.call gS [(.var af),(.var gY),(.var bo),(.var cV),(.tup [(.c (.str fM))]),(.call dz [(.var af)])]),
 .DN (.var af) c9 .sub (.c (.int (.ofNat 1)))]
noncomputable def zS:List T:=[
 .fL (.cmp .ne (.attr (.var af) iW) (.lst .fz [])) [.asg (.x l6) (.sub (.attr (.var af) iW) (.neg 0)),.expr (.call fN [(.var af),(.attr (.var l6) c9),(.attr (.var l6) aN)]),.expr (.call cB [(.var af),(.tup [(.c (.str jL)),(.attr (.var l6) eX)])])] [.expr (.call fN [(.var af),(.c (.int (.ofNat 0))),(.c (.int (.ofNat 0)))]),.expr (.call cB [(.var af),(.tup [(.c (.str jL)),(.attr (.var af) j0)])])]]
noncomputable def xY:List T:=[
 .fL (.cmp .nP (.sub (.var aD) (.c (.int (.ofNat 2)))) (.c .none)) [.expr (.call bY [(.var af),(.sub (.var aD) (.c (.int (.ofNat 2))))]),.expr (.call cB [(.var af),(.tup [(.c (.str BB))])])] [],
 .expr (.call ny [(.var af)])]
noncomputable def zT:List T:=[
 .ret (some (.G9 (.base [2]) [qj,vr,Qq,D1,D2,D3,gk,qV,mA] [(.oY lP),(.oY l8),(.oY sO),(.oY oa),(.oY og),(.oY oh),(.oY hZ),(.oY nu),(.oY j4)]))]
noncomputable def xZ:List T:=[
 .fL (.cmp .is (.var cI) (.c .none)) [.ret (some (.c (.int (.ofNat 0))))] [],
 .expr (.call bY [(.var af),(.var cI)]),
 .ret (some (.c (.int (.ofNat 1))))]
noncomputable def B6:List T:=[
 .asg (.tup [bH,ba,mB,nc,cI,m9]) (.var aD),
 .expr (.call bY [(.var af),(.var mB)]),
 .asg (.x gZ) (.call iF [(.var af),(.var cI)]),
 .expr (.call n9 [(.var af),(.var m9)]),
 .ret (some (.tup [(.var gZ),(.len (.var m9))]))]
noncomputable def sT:List T:=[
 .asg (.tup [gZ,eC]) (.call oi [(.var af),(.var aD)]),
 .expr (.call cB [(.var af),(.tup [(.c (.str cu)),(.sub (.var aD) (.c (.int (.ofNat 3)))),(.var gZ),(.var eC)])])]
noncomputable def ue:List T:=[
 .asg (.x l6) (.gM (.new 1 8 [(.var af),(.c .none)])),
 .expr (.append (.attr (.var af) iW) (.var l6)),
 .expr (.call bW [(.var af),(.var bo)]),
 .expr (.pop (.attr (.var af) iW)),
 .expr (.call ed [(.var af),(.attr (.var l6) eX),(.attr (.var l6) aN)]),
 .expr (.call cB [(.var af),(.tup [(.c (.str gf))])])]
noncomputable def x8:List T:=[
 .asg (.tup [bH,ba,nc,cI,sH,bo]) (.var aD),
 .expr (.call cB [(.var af),(.tup [(.c (.str iC))])]),
 .expr (.call cB [(.var af),(.tup [(.c (.str bw)),(.var nc),(.call iF [(.var af),(.var cI)]),(.var sH)])]),
 .expr (.call ee [(.var af),(.var bo)])]
noncomputable def vR:List T:=[
 .asg (.tup [bH,ba,mB,nc,cI,ng]) (.var aD),
 .asg (.x kQ) (.c (.int (.ofNat 0))),
 .fL (.cmp .nP (.var mB) (.c .none)) [.expr (.call bY [(.var af),(.var mB)]),.asg (.x kQ) (.c (.int (.ofNat 1)))] [],
 .expr (.call cB [(.var af),(.tup [(.c (.str cz)),(.var nc),(.call iF [(.var af),(.var cI)]),(.var kQ),(.var ng)])]),
 .expr (.call ny [(.var af)])]
noncomputable def qs:List T:=[
 .asg (.tup [fp,cJ,bI,bo]) (.var iD),
 .asg (.x qW) (.call dz [(.var af)]),
 .fL (.cmp .nP (.var fp) (.c .none)) [.expr (.call bY [(.var af),(.var fp)]),.expr (.call cB [(.var af),(.tup [(.c (.str mE)),(.var qW)])])] [],
 .asg (.x aN) (.attr (.var af) aN),
 .fL (.cmp .eq (.var cJ) (.c (.str bw))) [.expr (.call cB [(.var af),(.tup [(.c (.str bN)),(.var aW),(.sub (.var bI) (.c (.int (.ofNat 2)))),(.call iF [(.var af),(.sub (.var bI) (.c (.int (.ofNat 3))))])])])] [.fL (.cmp .eq (.var cJ) (.c (.str bE))) [.expr (.call bY [(.var af),(.sub (.var bI) (.c (.int (.ofNat 2))))]),.expr (.call cB [(.var af),(.tup [(.c (.str de)),(.var aW),(.sub (.var bI) (.c (.int (.ofNat 3))))])])] [.expr (.call cB [(.var af),(.tup [(.c (.str eG)),(.var aW)])])]],
 .expr (.call ed [(.var af),(.var qW),(.var aN)])]
noncomputable def sU:List T:=[
 .asg (.tup [bH,ba,aC,dp]) (.var aD),
 .asg (.x dn) (.comp (.call dz [(.var af)]) iD (.var aC) none [af]),
 .Mw [dA,iX] (.tup [(.call dz [(.var af)]),(.call dz [(.var af)])]),
 .expr (.call cB [(.var af),(.tup [(.c (.str qk))])]),
 .gN [aW] (.sg (.len (.var aC))) [.expr (.call eQ [(.var af),(.var aW),(.sub (.var aC) (.var aW))])],
 .expr (.call cB [(.var af),(.tup [(.c (.str bB)),(.cmp .nP (.var dp) (.c .none)),(.var dn),(.var dA)])]),
 .asg (.x aN) (.attr (.var af) aN),
 .gN [aW] (.sg (.len (.var aC))) [.asg (.tup [fp,cJ,bI,bo]) (.sub (.var aC) (.var aW)),.expr (.call ed [(.var af),(.sub (.var dn) (.var aW)),(.var aN)]),.fL (.cmp .eq (.var cJ) (.c (.str bw))) [.expr (.call cB [(.var af),(.tup [(.c (.str cO)),(.sub (.var bI) (.c (.int (.ofNat 4))))])]),.expr (.call ee [(.var af),(.sub (.var bI) (.c (.int (.ofNat 5))))])] [],.expr (.call bW [(.var af),(.var bo)]),.expr (.call cB [(.var af),(.tup [(.c (.str jL)),(.var iX)])])],
 .expr (.call ed [(.var af),(.var dA),(.var aN)]),
 .expr (.call bW [(.var af),(.ite (.cmp .nP (.var dp) (.c .none)) (.var dp) (.lst .fz []))]),
 .expr (.call ed [(.var af),(.var iX),(.var aN)])]
noncomputable def x9:List T:=[
 .asg (.tup [bH,ba,aC,dp]) (.var aD),
 .Mw [dA,iX] (.tup [(.call dz [(.var af)]),(.call dz [(.var af)])]),
 .asg (.x qX) (.c (.str sE)),
 .fL (.cmp .is (.var dp) (.c .none)) [.asg (.x jN) (.sub (.sub (.var aC) (.c (.int (.ofNat 1)))) (.c (.int (.ofNat 2)))),.expr (.call bY [(.var af),(.sub (.var jN) (.c (.int (.ofNat 2))))]),.asg (.x qX) (.ite (.sub (.var jN) (.c (.int (.ofNat 3)))) (.c (.str zl)) (.c (.str bE)))] [],
 .asg (.tup [gZ,eC]) (.call oi [(.var af),(.sub (.sub (.var aC) (.c (.int (.ofNat 0)))) (.c (.int (.ofNat 2))))]),
 .expr (.call cB [(.var af),(.tup [(.c (.str dJ)),(.sub (.sub (.sub (.var aC) (.c (.int (.ofNat 0)))) (.c (.int (.ofNat 2)))) (.c (.int (.ofNat 3)))),(.var gZ),(.var eC),(.var qX),(.var dA)])]),
 .asg (.x aN) (.attr (.var af) aN),
 .expr (.call bW [(.var af),(.sub (.sub (.var aC) (.c (.int (.ofNat 0)))) (.c (.int (.ofNat 3))))]),
 .expr (.call cB [(.var af),(.tup [(.c (.str jL)),(.var iX)])]),
 .expr (.call ed [(.var af),(.var dA),(.var aN)]),
 .expr (.call bW [(.var af),(.ite (.cmp .is (.var dp) (.c .none)) (.sub (.sub (.var aC) (.c (.int (.ofNat 1)))) (.c (.int (.ofNat 3)))) (.var dp))]),
 .expr (.call ed [(.var af),(.var iX),(.var aN)])]
noncomputable def ya:List T:=[
 .expr (.call cB [(.var af),(.tup [(.c (.str iC))])]),
 .fL (.cmp .eq (.sub (.sub (.sub (.var aD) (.c (.int (.ofNat 2)))) (.c (.int (.ofNat 0)))) (.c (.int (.ofNat 1)))) (.c (.str s_call))) [.expr (.call dt [(.var af),(.var aD)])] [.expr (.call dK [(.var af),(.var aD)])]]
noncomputable def zU:List T:=[
 .expr (.call cB [(.var af),(.tup [(.c (.str iC))])]),
 .expr (.call bY [(.var af),(.sub (.var aD) (.c (.int (.ofNat 2))))]),
 .expr (.call cB [(.var af),(.tup [(.c (.str bE)),(.sub (.var aD) (.c (.int (.ofNat 3))))])])]
noncomputable def zV:List T:=[
 .gN [bh] (.sub (.var aD) (.c (.int (.ofNat 2)))) [.expr (.call bY [(.var af),(.var bh)]),.expr (.call cB [(.var af),(.tup [(.c (.str d5))])])]]
noncomputable def B7:List T:=[
 .ret (some (.G9 (.base [16]) [cu,bw,cz,bB,bE,d5] [(.oY ia),(.oY gA),(.oY fY),(.oY gC),(.oY kS),(.oY kT)]))]
noncomputable def uf:List T:=[
 .asg (.attr (.var dw) vt) (.var vt),
 .asg (.attr (.var dw) sI) (.c (.bool false)),
 .asg (.attr (.var dw) sJ) (.lst .fz []),
 .asg (.attr (.var dw) gY) (.lst .fz []),
 .asg (.attr (.var dw) bo) (.lst .fz []),
 .asg (.attr (.var dw) cV) (.lst .fz [])]
noncomputable def HB:List T:=[
 .expr (.call cB [(.var af),(.tup [(.c (.str j2)),(.sub (.var bh) (.c (.int (.ofNat 2))))])])]
noncomputable def HE:List T:=[
 .expr (.call cB [(.var af),(.tup [(.c (.str iE)),(.sub (.var bh) (.c (.int (.ofNat 2)))),(.sub (.var bh) (.c (.int (.ofNat 3))))])])]
noncomputable def B8:List T:=[
 .ret (some (.G9 (.base [17]) [pZ,qj,iE,D4,vu,qY,qZ,q0] [(.oY sP),(.oY vM),(.oY sQ),(.oY vN),(.oY vO),(.oY tI),(.oY tJ),(.oY tK)]))]
noncomputable def B9:List T:=[
 .expr (.call cB [(.var af),(.tup [(.c (.str nh)),(.sub (.var bh) (.c (.int (.ofNat 2)))),(.sub (.var bh) (.c (.int (.ofNat 3))))])])]
noncomputable def zW:List T:=[
 .ret (some (.G9 (.base [18]) [iE,vu,qY,qZ,q0,D5,D6] [(.oY oj),(.oY rp),(.oY p5),(.oY p6),(.oY p7),(.oY ji),(.oY ji)]))]
noncomputable def EC:List T:=[
 .asg (.sub (.var ay) (.c (.str ql))) (.bin .add (.sub (.var ay) (.c (.str ql))) (.c (.int (.ofNat 1)))),
 .fL (.cmp .lt (.sub (.var ay) (.c (.str ql))) (.len (.sub (.var ay) (.c (.str gR))))) [.ret (some (.bin .mod (.sub (.sub (.var ay) (.c (.str gR))) (.sub (.var ay) (.c (.str ql)))) (.var vy)))] [],
 .ret (some (.bin .mod (.bin .add (.bin .fdiv (.bin .mul (.sub (.var ay) (.c (.str ql))) (.c (.int (.ofNat 5)))) (.c (.int (.ofNat 3)))) (.c (.int (.ofNat 1)))) (.var vy)))]
noncomputable def Ca:List T:=[
 .ret (some (.sub (.lst .fz [(.tup [(.c (.str iE)),(.c (.int (.ofNat 0))),(.c (.int (.ofNat 1))),(.c (.str Ba))]),(.tup [(.c (.str pZ)),(.c (.int (.ofNat 0))),(.call aT [(.var ay),(.c (.int (.ofNat 9)))])])]) (.call aT [(.var ay),(.c (.int (.ofNat 2)))])))]
noncomputable def zX:List T:=[
 .ret (some (.sub (.lst .fz [(.c .none),(.call fq [(.var ay)])]) (.call aT [(.var ay),(.c (.int (.ofNat 2)))])))]
noncomputable def ED:List T:=[
 .asg (.x m9) (.comp (.sub (.lst .fz [(.tup [(.c (.str xF)),(.call fq [(.var ay)])]),(.tup [(.c (.str iX)),(.tup [(.c (.str iE)),(.c (.int (.ofNat 0))),(.c (.int (.ofNat 0))),(.c (.str SE))])])]) (.call aT [(.var ay),(.c (.int (.ofNat 2)))])) df (.sg (.call aT [(.var ay),(.c (.int (.ofNat 3)))])) none [ay]),
 .ret (some (.tup [(.c (.str cu)),(.var ba),(.call fq [(.var ay)]),(.bin .add (.c (.str WB)) (.str (.call aT [(.var ay),(.c (.int (.ofNat 2)))]))),(.call kU [(.var ay)]),(.var m9)]))]
noncomputable def zY:List T:=[
 .ret (some (.tup [(.c (.str bw)),(.var ba),(.bin .add (.c (.str WB)) (.str (.call aT [(.var ay),(.c (.int (.ofNat 2)))]))),(.call kU [(.var ay)]),(.DM (.lst .fz [(.c (.str s_p))]) none (some (.call aT [(.var ay),(.c (.int (.ofNat 2)))]))),(.call dM [(.var ay),(.bin .sub (.var dW) (.c (.int (.ofNat 1)))),(.c (.bool true))])]))]
noncomputable def Cb:List T:=[
 .ret (some (.sub (.lst .fz [(.c .none),(.tup [(.c (.str pZ)),(.c (.int (.ofNat 0))),(.c (.int (.ofNat 0)))]),(.tup [(.c (.str pZ)),(.c (.int (.ofNat 0))),(.c (.int (.ofNat 1)))])]) (.call aT [(.var ay),(.c (.int (.ofNat 3)))])))]
noncomputable def zZ:List T:=[
 .fL (.cmp .eq (.call aT [(.var ay),(.c (.int (.ofNat 3)))]) (.c (.int (.ofNat 0)))) [.asg (.x s_call) (.tup [(.c .none),(.c (.str s_call)),(.call qq [(.var ay),(.var ba)]),(.call dM [(.var ay),(.bin .sub (.var dW) (.c (.int (.ofNat 1)))),(.var bg)])]),.fL (.cmp .eq (.call aT [(.var ay),(.c (.int (.ofNat 2)))]) (.c (.int (.ofNat 0)))) [.ret (some (.tup [(.c (.str bB)),(.var ba),(.lst .fz [(.var s_call)]),(.call dM [(.var ay),(.bin .sub (.var dW) (.c (.int (.ofNat 1)))),(.var bg)])]))] [],.asg (.x jN) (.tup [(.c .none),(.c (.str bE)),(.tup [(.c (.str bE)),(.var ba),(.call fq [(.var ay)]),(.cmp .eq (.call aT [(.var ay),(.c (.int (.ofNat 2)))]) (.c (.int (.ofNat 1))))]),(.call dM [(.var ay),(.c (.int (.ofNat 0))),(.var bg)])]),.ret (some (.tup [(.c (.str bB)),(.var ba),(.lst .fz [(.var s_call),(.var jN)]),(.c .none)]))] [],
 .asg (.x cf) (.lst .A6 []),
 .gN [df] (.sg (.bin .add (.c (.int (.ofNat 1))) (.call aT [(.var ay),(.c (.int (.ofNat 3)))]))) [.asg (.x cJ) (.sub (.lst .fz [(.c (.str bw)),(.c (.str bw)),(.c (.str bE)),(.c (.str kg))]) (.call aT [(.var ay),(.c (.int (.ofNat 4)))])),.asg (.x bI) (.c .none),.fL (.cmp .eq (.var cJ) (.c (.str bw))) [.asg (.x bI) (.call kW [(.var ay),(.var ba),(.var dW)])] [.fL (.cmp .eq (.var cJ) (.c (.str bE))) [.asg (.x bI) (.tup [(.c (.str bE)),(.var ba),(.call fq [(.var ay)]),(.cmp .eq (.call aT [(.var ay),(.c (.int (.ofNat 2)))]) (.c (.int (.ofNat 1))))])] []],.expr (.append (.var cf) (.tup [(.call lQ [(.var ay)]),(.var cJ),(.var bI),(.call dM [(.var ay),(.c (.int (.ofNat 0))),(.var bg)])]))],
 .ret (some (.tup [(.c (.str bB)),(.var ba),(.var cf),(.sub (.lst .fz [(.c .none),(.call dM [(.var ay),(.c (.int (.ofNat 0))),(.var bg)])]) (.call aT [(.var ay),(.c (.int (.ofNat 2)))]))]))]
noncomputable def EE:List T:=[
 .asg (.x cf) (.lst .A6 []),
 .gN [df] (.sg (.ite (.cx (.cmp .gt (.var dW) (.c (.int (.ofNat 0)))) (.cmp .gt (.sub (.var ay) (.c (.str eM))) (.c (.int (.ofNat 0))))) (.call aT [(.var ay),(.c (.int (.ofNat 3)))]) (.c (.int (.ofNat 1))))) [.asg (.sub (.var ay) (.c (.str eM))) (.bin .sub (.sub (.var ay) (.c (.str eM))) (.c (.int (.ofNat 1)))),.asg (.sub (.var ay) (.c (.str ba))) (.bin .add (.sub (.var ay) (.c (.str ba))) (.c (.int (.ofNat 1)))),.expr (.append (.var cf) (.call gD [(.var ay),(.sub (.var ay) (.c (.str ba))),(.var dW),(.var bg)]))],
 .ret (some (.var cf))]
noncomputable def HF:List T:=[
 .asg (.x ip) (.ite (.cx (.cmp .gt (.var dW) (.c (.int (.ofNat 0)))) (.cmp .gt (.sub (.var ay) (.c (.str eM))) (.c (.int (.ofNat 0))))) (.call aT [(.var ay),(.c (.int (.ofNat 9)))]) (.c (.int (.ofNat 6)))),
 .fL (.cmp .lt (.var ip) (.c (.int (.ofNat 2)))) [.ret (some (.call qq [(.var ay),(.var ba)]))] [],
 .fL (.cmp .eq (.var ip) (.c (.int (.ofNat 2)))) [.ret (some (.call kW [(.var ay),(.var ba),(.var dW)]))] [],
 .fL (.cmp .isin (.var ip) (.tup [(.c (.int (.ofNat 3))),(.c (.int (.ofNat 4)))])) [.ret (some (.call jj [(.var ay),(.var ba),(.var dW),(.var bg)]))] [],
 .fL (.cmp .eq (.var ip) (.c (.int (.ofNat 5)))) [.ret (some (.tup [(.c (.str gk)),(.var ba),(.c (.str aI)),(.lst .fz []),(.call dM [(.var ay),(.bin .sub (.var dW) (.c (.int (.ofNat 1)))),(.var bg)]),(.lst .fz [])]))] [],
 .asg (.x ip) (.call aT [(.var ay),(.c (.int (.ofNat 5)))]),
 .fL (.cmp .eq (.var ip) (.c (.int (.ofNat 0)))) [.ret (some (.tup [(.c (.str bE)),(.var ba),(.call fq [(.var ay)]),(.cmp .eq (.call aT [(.var ay),(.c (.int (.ofNat 2)))]) (.c (.int (.ofNat 1))))]))] [],
 .fL (.cmp .eq (.var ip) (.c (.int (.ofNat 1)))) [.ret (some (.tup [(.c (.str d5)),(.var ba),(.comp (.call fq [(.var ay)]) df (.sg (.bin .add (.c (.int (.ofNat 1))) (.call aT [(.var ay),(.c (.int (.ofNat 2)))]))) none [ay])]))] [],
 .fL (.cx (.cmp .eq (.var ip) (.c (.int (.ofNat 2)))) (.var bg)) [.ret (some (.tup [(.c (.str cz)),(.var ba),(.sub (.lst .fz [(.c .none),(.tup [(.c (.str iE)),(.c (.int (.ofNat 0))),(.c (.int (.ofNat 0))),(.c (.str Ba))])]) (.call aT [(.var ay),(.c (.int (.ofNat 2)))])),(.c (.str qm)),(.call kU [(.var ay)]),(.cmp .eq (.call aT [(.var ay),(.c (.int (.ofNat 2)))]) (.c (.int (.ofNat 1))))]))] [],
 .fL (.cx (.cmp .eq (.var ip) (.c (.int (.ofNat 3)))) (.var bg)) [.ret (some (.tup [(.c (.str mA)),(.var ba),(.c .none)]))] [],
 .ret (some (.tup [(.c (.str qj)),(.var ba)]))]
noncomputable def EF:List T:=[
 .expr (.append (.sub (.var aM) (.c (.str qn))) (.var vz)),
 .ret (some (.var vz))]
noncomputable def Cc:List T:=[
 .asg (.sub (.var aM) (.c (.str q8))) (.bin .add (.sub (.var aM) (.c (.str q8))) (.c (.int (.ofNat 1)))),
 .ret (some (.bin .mod (.bin .fdiv (.sub (.var aM) (.c (.str g8))) (.bin .pow (.c (.int (.ofNat 3))) (.bin .mod (.sub (.var aM) (.c (.str q8))) (.c (.int (.ofNat 12)))))) (.var vy)))]
noncomputable def HG:List T:=[
 .asg (.x bH) (.sub (.var s_row) (.c (.int (.ofNat 0)))),
 .fL (.cmp .eq (.var bH) (.c (.str jL))) [.ret (some (.sub (.var s_row) (.c (.int (.ofNat 1)))))] [],
 .fL (.cmp .isin (.var bH) (.tup [(.c (.str j2)),(.c (.str iE)),(.c (.str nh)),(.c (.str qk))])) [.expr (.append (.var s_stack) (.ite (.cmp .eq (.var bH) (.c (.str qk))) (.lst (.base [15]) []) (.bin .add (.bin .add (.var bH) (.c (.str aQ))) (.str (.DM (.var s_row) (some (.c (.int (.ofNat 1)))) none))))),.ret (some (.c .none))] [],
 .fL (.cmp .eq (.var bH) (.c (.str mE))) [.ret (some (.ite (.cmp .eq (.pop (.var s_stack)) (.c (.str n7))) (.sub (.var s_row) (.c (.int (.ofNat 1)))) (.c .none)))] [],
 .fL (.cmp .isin (.var bH) (.tup [(.c (.str bN)),(.c (.str de)),(.c (.str eG))])) [.ret (some (.call om [(.var aM),(.var s_row),(.var s_stack)]))] [],
 .fL (.cmp .eq (.var bH) (.c (.str bB))) [.asg (.x bT) (.gM (.pop (.var s_stack))),.expr (.call aU [(.var aM),(.bin .add (.bin .add (.bin .add (.c (.str eF)) (.str (.sub (.var s_row) (.c (.int (.ofNat 1)))))) (.c (.str aQ))) (.str (.var bT)))]),.fL (.A7 (.cmp .eq (.var bT) (.lst .fz [])) (.cx (.sub (.var s_row) (.c (.int (.ofNat 1)))) (.cmp .eq (.call gh [(.var aM),(.c (.int (.ofNat 3)))]) (.c (.int (.ofNat 0)))))) [.ret (some (.ite (.sub (.var s_row) (.c (.int (.ofNat 1)))) (.sub (.var s_row) (.c (.int (.ofNat 3)))) (.neg 0)))] [],.ret (some (.sub (.sub (.var s_row) (.c (.int (.ofNat 2)))) (.sub (.sub (.var bT) (.call gh [(.var aM),(.len (.var bT))])) (.c (.int (.ofNat 0))))))] [],
 .asg (.x BC) (.G9 .A6 [da,fV,dc,bE,d5] [(.c (.int (.ofNat 1))),(.c (.int (.ofNat 1))),(.c (.int (.ofNat 1))),(.c (.int (.ofNat 1))),(.c (.int (.ofNat 1)))]),
 .asg (.x eC) (.get (.var BC) (.var bH) (.c (.int (.ofNat 0)))),
 .fL (.A7 (.cmp .eq (.var bH) (.c (.str cu))) (.cmp .eq (.var bH) (.c (.str dJ)))) [.asg (.x eC) (.bin .add (.bin .add (.bin .add (.c (.int (.ofNat 1))) (.sub (.var s_row) (.c (.int (.ofNat 2))))) (.sub (.var s_row) (.c (.int (.ofNat 3))))) (.ite (.cx (.cmp .eq (.var bH) (.c (.str dJ))) (.cmp .ne (.sub (.var s_row) (.c (.int (.ofNat 4)))) (.c (.str sE)))) (.c (.int (.ofNat 1))) (.c (.int (.ofNat 0)))))] [.fL (.A7 (.cmp .eq (.var bH) (.c (.str bw))) (.cmp .eq (.var bH) (.c (.str cz)))) [.asg (.x eC) (.bin .add (.sub (.var s_row) (.c (.int (.ofNat 2)))) (.ite (.cmp .eq (.var bH) (.c (.str cz))) (.sub (.var s_row) (.c (.int (.ofNat 3)))) (.c (.int (.ofNat 0)))))] []],
 .asg (.x d4) (.Bf (.var s_stack) (.var eC)),
 .asg (.cut (.var s_stack) (.var eC)) (.lst .fz []),
 .asg (.x bM) (.ite (.cmp .yl (.var bH) (.tup [(.c (.str da)),(.c (.str qU)),(.c (.str dJ))])) (.DM (.var s_row) (some (.c (.int (.ofNat 1)))) none) (.ite (.cmp .eq (.var bH) (.c (.str dJ))) (.DM (.var s_row) (some (.c (.int (.ofNat 1)))) (some (.c (.int (.ofNat 5))))) (.tup []))),
 .asg (.x vz) (.call aU [(.var aM),(.bin .add (.bin .add (.bin .add (.bin .add (.var bH) (.c (.str aQ))) (.str (.var bM))) (.c (.str aQ))) (.str (.var d4)))]),
 .fL (.cmp .isin (.var bH) (.tup [(.c (.str da)),(.c (.str fV)),(.c (.str dc))])) [.expr (.append (.var s_stack) (.var vz))] [],
 .fL (.cx (.cmp .eq (.var bH) (.c (.str dJ))) (.cmp .eq (.call gh [(.var aM),(.c (.int (.ofNat 2)))]) (.c (.int (.ofNat 0))))) [.ret (some (.sub (.var s_row) (.c (.int (.ofNat 5)))))] [],
 .ret (some (.c .none))]
noncomputable def vT:List T:=[
 .asg (.x zm) (.c (.str aI)),
 .fL (.A7 (.cmp .eq (.sub (.var s_row) (.c (.int (.ofNat 0)))) (.c (.str de))) (.cx (.cmp .eq (.sub (.var s_row) (.c (.int (.ofNat 0)))) (.c (.str bN))) (.cmp .eq (.sub (.var s_row) (.c (.int (.ofNat 3)))) (.c (.int (.ofNat 1)))))) [.asg (.x zm) (.pop (.var s_stack))] [],
 .expr (.append (.sub (.var s_stack) (.neg 0)) (.tup [(.sub (.var s_row) (.c (.int (.ofNat 1)))),(.bin .add (.bin .add (.bin .add (.bin .add (.sub (.var s_row) (.c (.int (.ofNat 0)))) (.c (.str aQ))) (.str (.DM (.var s_row) (some (.c (.int (.ofNat 2)))) none))) (.c (.str aQ))) (.var zm))])),
 .ret (some (.c .none))]
noncomputable def z4:List T:=[
 .asg (.x s_stack) (.lst (.base [14]) []),
 .asg (.x aW) (.c (.int (.ofNat 0))),
 .PY (.cmp .ne (.sub (.sub (.var bT) (.var aW)) (.c (.int (.ofNat 0)))) (.c (.str fb))) [.asg (.x ni) (.call sR [(.var aM),(.sub (.var bT) (.var aW)),(.var s_stack)]),.fL (.cmp .eq (.var ni) (.neg 0)) [.ret (some (.c (.str bz)))] [],.asg (.x aW) (.ite (.cmp .is (.var ni) (.c .none)) (.bin .add (.var aW) (.c (.int (.ofNat 1)))) (.var ni))],
 .ret (some (.len (.var s_stack)))]
noncomputable def EG:List T:=[
 .ret (some (.ite (.cmp .eq (.sub (.var bh) (.c (.int (.ofNat 0)))) (.c (.str pZ))) (.bin .add (.c (.str iO)) (.str (.tup [(.sub (.var bh) (.c (.int (.ofNat 2))))]))) (.bin .add (.c (.str kh)) (.str (.DM (.var bh) (some (.c (.int (.ofNat 2)))) none)))))]
noncomputable def yb:List T:=[
 .asg (.x cf) (.lst .A6 []),
 .gN [fU,bh] (.var q9) [.fL (.cmp .eq (.var fU) (.c (.str xF))) [.expr (.append (.var cf) (.call aU [(.var aM),(.bin .add (.c (.str dg)) (.str (.lst .fz [(.call cW [(.var bh)])])))]))] [.asg (.x da) (.call aU [(.var aM),(.bin .add (.c (.str dX)) (.str (.lst .fz [(.bin .add (.c (.str nj)) (.str (.DM (.var bh) (some (.c (.int (.ofNat 2)))) none)))])))]),.expr (.append (.var cf) (.call aU [(.var aM),(.bin .add (.c (.str dh)) (.str (.lst .fz [(.var da)])))]))]],
 .ret (some (.var cf))]
noncomputable def ug:List T:=[
 .asg (.x cI) (.ite (.cmp .is (.sub (.var aD) (.c (.int (.ofNat 4)))) (.c .none)) (.lst .fz []) (.lst .fz [(.call cW [(.sub (.var aD) (.c (.int (.ofNat 4))))])])),
 .asg (.x d4) (.bin .add (.bin .add (.bin .add (.var Gg) (.lst .fz [(.call cW [(.sub (.var aD) (.c (.int (.ofNat 2))))])])) (.var cI)) (.call iG [(.var aM),(.sub (.var aD) (.c (.int (.ofNat 5))))])),
 .asg (.x bM) (.bin .add (.tup [(.sub (.var aD) (.c (.int (.ofNat 3)))),(.len (.var cI)),(.len (.sub (.var aD) (.c (.int (.ofNat 5)))))]) (.var qX)),
 .expr (.call aU [(.var aM),(.bin .add (.bin .add (.bin .add (.ite (.cmp .eq (.var qX) (.tup [])) (.c (.str fW)) (.c (.str g9))) (.str (.var bM))) (.c (.str aQ))) (.str (.var d4)))])]
noncomputable def ru:List T:=[
 .asg (.tup [bH,ba,aC,dp]) (.var aD),
 .expr (.call aU [(.var aM),(.c (.str dy))]),
 .fL (.cmp .eq (.sub (.sub (.var aC) (.c (.int (.ofNat 0)))) (.c (.int (.ofNat 1)))) (.c (.str s_call))) [.asg (.x jN) (.ite (.cmp .is (.var dp) (.c .none)) (.sub (.var aC) (.c (.int (.ofNat 1)))) (.c .none)),.asg (.x qX) (.ite (.cmp .is (.var jN) (.c .none)) (.tup [(.c (.str sE))]) (.tup [(.ite (.sub (.sub (.var jN) (.c (.int (.ofNat 2)))) (.c (.int (.ofNat 3)))) (.c (.str zl)) (.c (.str bE)))])),.expr (.call kB [(.var aM),(.sub (.sub (.var aC) (.c (.int (.ofNat 0)))) (.c (.int (.ofNat 2)))),(.ite (.cmp .is (.var jN) (.c .none)) (.lst .fz []) (.lst .fz [(.call cW [(.sub (.sub (.var jN) (.c (.int (.ofNat 2)))) (.c (.int (.ofNat 2))))])])),(.var qX)]),.fL (.cmp .eq (.call gh [(.var aM),(.c (.int (.ofNat 2)))]) (.c (.int (.ofNat 0)))) [.ret (some (.call gp [(.var aM),(.ite (.cmp .is (.var jN) (.c .none)) (.var dp) (.sub (.var jN) (.c (.int (.ofNat 3)))))]))] [],.ret (some (.call gp [(.var aM),(.sub (.sub (.var aC) (.c (.int (.ofNat 0)))) (.c (.int (.ofNat 3))))]))] [],
 .asg (.x bT) (.lst .A6 []),
 .gN [aW] (.sg (.len (.var aC))) [.asg (.tup [fp,cJ,bI,bo]) (.sub (.var aC) (.var aW)),.fL (.cx (.cmp .nP (.var fp) (.c .none)) (.cmp .eq (.sub (.var fp) (.c (.int (.ofNat 2)))) (.c (.int (.ofNat 0))))) [.cont] [],.fL (.cmp .eq (.var cJ) (.c (.str bw))) [.asg (.x cI) (.ite (.cmp .is (.sub (.var bI) (.c (.int (.ofNat 3)))) (.c .none)) (.c (.str aI)) (.call cW [(.sub (.var bI) (.c (.int (.ofNat 3))))])),.expr (.append (.var bT) (.tup [(.var aW),(.bin .add (.bin .add (.bin .add (.c (.str gw)) (.str (.tup [(.sub (.var bI) (.c (.int (.ofNat 2)))),(.ite (.cmp .is (.sub (.var bI) (.c (.int (.ofNat 3)))) (.c .none)) (.c (.int (.ofNat 0))) (.c (.int (.ofNat 1))))]))) (.c (.str aQ))) (.var cI))]))] [.fL (.cmp .eq (.var cJ) (.c (.str bE))) [.expr (.append (.var bT) (.tup [(.var aW),(.bin .add (.bin .add (.bin .add (.c (.str jg)) (.str (.tup [(.sub (.var bI) (.c (.int (.ofNat 3))))]))) (.c (.str aQ))) (.call cW [(.sub (.var bI) (.c (.int (.ofNat 2))))]))]))] [.expr (.append (.var bT) (.tup [(.var aW),(.c (.str gF))]))]]],
 .expr (.call aU [(.var aM),(.bin .add (.bin .add (.bin .add (.c (.str eF)) (.str (.cmp .nP (.var dp) (.c .none)))) (.c (.str aQ))) (.str (.var bT)))]),
 .fL (.A7 (.cmp .eq (.var bT) (.lst .fz [])) (.cx (.cmp .nP (.var dp) (.c .none)) (.cmp .eq (.call gh [(.var aM),(.c (.int (.ofNat 3)))]) (.c (.int (.ofNat 0)))))) [.ret (some (.ite (.cmp .nP (.var dp) (.c .none)) (.call gp [(.var aM),(.var dp)]) (.c (.str bz))))] [],
 .asg (.tup [fp,cJ,bI,bo]) (.sub (.var aC) (.sub (.sub (.var bT) (.call gh [(.var aM),(.len (.var bT))])) (.c (.int (.ofNat 0))))),
 .fL (.cmp .eq (.var cJ) (.c (.str bw))) [.expr (.call aU [(.var aM),(.bin .add (.bin .add (.c (.str dj)) (.str (.tup [(.sub (.var bI) (.c (.int (.ofNat 4))))]))) (.c (.str dC)))]),.fL (.cmp .eq (.call gp [(.var aM),(.sub (.var bI) (.c (.int (.ofNat 5))))]) (.c (.str bz))) [.ret (some (.c (.str bz)))] [],.expr (.call aU [(.var aM),(.c (.str dY))])] [],
 .ret (some (.call gp [(.var aM),(.var bo)]))]
noncomputable def EH:List T:=[
 .gN [aD] (.var bo) [.expr (.call aU [(.var aM),(.bin .add (.bin .add (.c (.str hI)) (.str (.tup [(.sub (.var aD) (.c (.int (.ofNat 1))))]))) (.c (.str dC)))]),.asg (.x ip) (.call lr [(.var aM),(.var aD)]),.fL (.cmp .nP (.var ip) (.c .none)) [.ret (some (.var ip))] []],
 .ret (some (.c .none))]
noncomputable def vU:List T:=[
 .asg (.x bH) (.sub (.var aD) (.c (.int (.ofNat 0)))),
 .fL (.cmp .eq (.var bH) (.c (.str cu))) [.expr (.call kB [(.var aM),(.var aD),(.lst .fz []),(.tup [])])] [.fL (.cmp .eq (.var bH) (.c (.str bw))) [.asg (.x cI) (.ite (.cmp .is (.sub (.var aD) (.c (.int (.ofNat 3)))) (.c .none)) (.lst .fz []) (.lst .fz [(.call cW [(.sub (.var aD) (.c (.int (.ofNat 3))))])])),.expr (.call aU [(.var aM),(.c (.str dy))]),.expr (.call aU [(.var aM),(.bin .add (.bin .add (.bin .add (.c (.str n8)) (.str (.tup [(.sub (.var aD) (.c (.int (.ofNat 2)))),(.len (.var cI)),(.sub (.var aD) (.c (.int (.ofNat 4))))]))) (.c (.str aQ))) (.str (.var cI)))]),.fL (.cmp .eq (.call gp [(.var aM),(.sub (.var aD) (.c (.int (.ofNat 5))))]) (.c (.str bz))) [.ret (some (.c (.str bz)))] [],.expr (.call aU [(.var aM),(.c (.str dY))])] [.fL (.cmp .eq (.var bH) (.c (.str bB))) [.ret (some (.call aV [(.var aM),(.var aD)]))] [.fL (.cmp .eq (.var bH) (.c (.str gk))) [.expr (.call aU [(.var aM),(.c (.str eN))]),.expr (.call aU [(.var aM),(.c (.str fX))]),.asg (.x ip) (.call gp [(.var aM),(.sub (.var aD) (.c (.int (.ofNat 4))))]),.fL (.cmp .ne (.var ip) (.c (.str bz))) [.expr (.call aU [(.var aM),(.c (.str gx))])] [],.ret (some (.var ip))] [.fL (.cmp .eq (.var bH) (.c (.str bE))) [.expr (.call aU [(.var aM),(.c (.str dy))]),.expr (.call aU [(.var aM),(.bin .add (.bin .add (.bin .add (.c (.str qo)) (.str (.tup [(.sub (.var aD) (.c (.int (.ofNat 3))))]))) (.c (.str aQ))) (.str (.lst .fz [(.call cW [(.sub (.var aD) (.c (.int (.ofNat 2))))])])))])] [.fL (.cmp .eq (.var bH) (.c (.str d5))) [.gN [bh] (.sub (.var aD) (.c (.int (.ofNat 2)))) [.expr (.call aU [(.var aM),(.bin .add (.c (.str cv)) (.str (.lst .fz [(.call cW [(.var bh)])])))])]] [.fL (.cmp .eq (.var bH) (.c (.str cz))) [.asg (.x d4) (.comp (.call cW [(.var bh)]) bh (.tup [(.sub (.var aD) (.c (.int (.ofNat 2)))),(.sub (.var aD) (.c (.int (.ofNat 4))))]) (some (.cmp .nP (.var bh) (.c .none))) []),.asg (.x bM) (.tup [(.sub (.var aD) (.c (.int (.ofNat 3)))),(.ite (.cmp .is (.sub (.var aD) (.c (.int (.ofNat 4)))) (.c .none)) (.c (.int (.ofNat 0))) (.c (.int (.ofNat 1)))),(.ite (.cmp .is (.sub (.var aD) (.c (.int (.ofNat 2)))) (.c .none)) (.c (.int (.ofNat 0))) (.c (.int (.ofNat 1)))),(.sub (.var aD) (.c (.int (.ofNat 5))))]),.expr (.call aU [(.var aM),(.bin .add (.bin .add (.bin .add (.c (.str hY)) (.str (.var bM))) (.c (.str aQ))) (.str (.var d4)))]),.ret (some (.c (.str eM)))] [.fL (.cmp .eq (.var bH) (.c (.str mA))) [.ret (some (.c (.str eM)))] []]]]]]]],
 .ret (some (.c .none))]
noncomputable def Uj:List T:=[
 .asg (.x ay) (.G9 (.base [0]) [gR,ql,ba,eM] [(.DM (.var gR) none (some (.c (.int (.ofNat 70))))),(.neg 0),(.c (.int (.ofNat 0))),(.c (.int (.ofNat 12)))]),
 .asg (.x jM) (.new 2 1 [(.c (.str Yg))]),
 .asg (.attr (.var jM) bo) (.call dM [(.var ay),(.c (.int (.ofNat 3))),(.c (.bool false))]),
 .asg (.x g8) (.call aT [(.var ay),(.c (.int (.ofNat 531441)))]),
 .asg (.x fk) (.call ro []),
 .expr (.update (.var fk) (.call tH [])),
 .asg (.x eg) (.G9 (.base [3]) [ph,fT,fk,lq] [(.call tL []),(.call rq []),(.var fk),(.G9 (.base [19]) [] [])]),
 .asg (.x D7) (.call rn [(.var eg),(.var jM),(.c (.str fb))]),
 .asg (.x nk) (.comp (.G9 (.base [10,11]) [qn,q8,g8] [(.lst (.base [12,13]) []),(.c (.int (.ofNat 0))),(.var g8)]) df (.sg (.c (.int (.ofNat 2)))) none [g8]),
 .asg (.x qn) (.call gn [(.sub (.var nk) (.c (.int (.ofNat 0)))),(.attr (.var D7) bT)]),
 .expr (.call aU [(.sub (.var nk) (.c (.int (.ofNat 1)))),(.c (.str fX))]),
 .asg (.x J3) (.call gp [(.sub (.var nk) (.c (.int (.ofNat 1)))),(.attr (.var jM) bo)]),
 .ret (some (.cx (.cmp .eq (.var qn) (.ite (.cmp .is (.var J3) (.c .none)) (.c (.int (.ofNat 0))) (.var J3))) (.cmp .eq (.sub (.sub (.var nk) (.c (.int (.ofNat 0)))) (.c (.str qn))) (.sub (.sub (.var nk) (.c (.int (.ofNat 1)))) (.c (.str qn))))))]
noncomputable def Uk:Nat->List Str
 |0=>[dw,bT,n6,lO]
 |1=>[s_row]
 |2=>[s_row]
 |3=>[s_row]
 |4=>[s_row,fT]
 |5=>[s_row]
 |6=>[dw,eg]
 |7=>[dw,af,j1]
 |8=>[af,s_row]
 |9=>[af]
 |10=>[af,eX,aN]
 |11=>[af]
 |12=>[af,bh]
 |13=>[af,bh]
 |14=>[af,bh]
 |15=>[af,aD]
 |16=>[af,bo]
 |17=>[af,gY]
 |18=>[af,c9,aN]
 |19=>[af,gY,bo,cV,s_end,j0]
 |20=>[af,m9]
 |21=>[eg,jM,s_end]
 |22=>[af,aD]
 |29=>[af,aD]
 |31=>[af]
 |32=>[af,aD]
 |33=>[]
 |34=>[af,cI]
 |35=>[af,aD]
 |36=>[af,aD]
 |37=>[af,bo]
 |38=>[af,aD]
 |39=>[af,aD]
 |40=>[af,aW,iD]
 |41=>[af,aD]
 |42=>[af,aD]
 |43=>[af,aD]
 |44=>[af,aD]
 |45=>[af,aD]
 |46=>[]
 |47=>[dw,vt]
 |49=>[af,bh]
 |51=>[af,bh]
 |57=>[]
 |58=>[af,bh]
 |64=>[]
 |65=>[ay,vy]
 |66=>[ay]
 |67=>[ay]
 |68=>[ay,ba]
 |69=>[ay,ba,dW]
 |70=>[ay]
 |71=>[ay,ba,dW,bg]
 |72=>[ay,dW,bg]
 |73=>[ay,ba,dW,bg]
 |74=>[aM,vz]
 |75=>[aM,vy]
 |76=>[aM,s_row,s_stack]
 |77=>[aM,s_row,s_stack]
 |78=>[aM,bT]
 |79=>[bh]
 |80=>[aM,q9]
 |81=>[aM,aD,Gg,qX]
 |82=>[aM,aD]
 |83=>[aM,bo]
 |84=>[aM,aD]
 |85=>[gR]
 |_=>[af,af,af,af,af,af,af,af,af]
noncomputable def codeOf:Nat->List T
 |0=>B3
 |1=>Ew
 |2=>B4
 |3=>Ey
 |4=>zM
 |5=>HA
 |6=>Ez
 |7=>ud
 |8=>Ui
 |9=>EA
 |10=>EB
 |11=>xV
 |12=>zO
 |13=>zP
 |14=>xW
 |15=>sS
 |16=>rt
 |17=>pQ
 |18=>xX
 |19=>vP
 |20=>vQ
 |21=>zQ
 |22=>B5
 |29=>zR
 |31=>zS
 |32=>xY
 |33=>zT
 |34=>xZ
 |35=>B6
 |36=>sT
 |37=>ue
 |38=>x8
 |39=>vR
 |40=>qs
 |41=>sU
 |42=>x9
 |43=>ya
 |44=>zU
 |45=>zV
 |46=>B7
 |47=>uf
 |49=>HB
 |51=>HE
 |57=>B8
 |58=>B9
 |64=>zW
 |65=>EC
 |66=>Ca
 |67=>zX
 |68=>ED
 |69=>zY
 |70=>Cb
 |71=>zZ
 |72=>EE
 |73=>HF
 |74=>EF
 |75=>Cc
 |76=>HG
 |77=>vT
 |78=>z4
 |79=>EG
 |80=>yb
 |81=>ug
 |82=>ru
 |83=>EH
 |84=>vU
 |85=>Uj
 |_=>[.no]
noncomputable def P:Defs:=⟨Uk,codeOf⟩
noncomputable def uG:List (Str×D):=[
 (j2,.tuple [.int (.ofNat 0),.int (.ofNat 1),.str iq]),
 (iE,.tuple [.int (.ofNat 0),.int (.ofNat 1),.str jh]),
 (D4,.tuple [.int (.ofNat 0),.int (.ofNat 1),.str iq]),
 (vu,.tuple [.int (.ofNat 1),.int (.ofNat 1),.str iq]),
 (qY,.tuple [.int (.ofNat 1),.int (.ofNat 1),.str Ub]),
 (qZ,.tuple [.int (.ofNat 3),.int (.ofNat 1),.str aI]),
 (q0,.tuple [.int (.ofNat 1),.int (.ofNat 1),.str aI]),
 (Yh,.tuple [.int (.ofNat 0),.int (.ofNat 1),.str zo]),
 (xF,.tuple [.int (.ofNat 1),.int (.ofNat 1),.str jh]),
 (D5,.tuple [.int (.ofNat 1),.int (.ofNat 1),.str iq]),
 (D6,.tuple [.int (.ofNat 1),.int (.ofNat 1),.str jh]),
 (J4,.tuple [.int (.ofNat 1),.int (.ofNat 1),.str iY]),
 (D8,.tuple [.int (.ofNat 0),.int (.ofNat 1),.str iY]),
 (D9,.tuple [.int (.ofNat 1),.int (.ofNat 1),.str aI]),
 (Hk,.tuple [.int (.ofNat 0),.int (.ofNat 1),.str iq]),
 (Ud,.tuple [.int (.ofNat 1),.int (.ofNat 1),.str aI]),
 (M4,.tuple [.int (.ofNat 2),.int (.ofNat 1),.str aI]),
 (Qr,.tuple [.int (.ofNat 1),.int (.ofNat 1),.str aI]),
 (Hl,.tuple [.int (.ofNat 0),.int (.ofNat 1),.str BD]),
 (Ea,.tuple [.int (.ofNat 0),.int (.ofNat 1),.str iY]),
 (Eb,.tuple [.int (.ofNat 1),.int (.ofNat 1),.str iY]),
 (M5,.tuple [.int (.ofNat 0),.int (.ofNat 1),.str iY]),
 (BE,.tuple [.int (.ofNat 0),.int (.ofNat 1),.str iY]),
 (Ec,.tuple [.int (.ofNat 1),.int (.ofNat 1),.str Qs]),
 (nh,.tuple [.int (.ofNat 0),.int (.ofNat 1),.str jh]),
 (BF,.tuple [.int (.ofNat 1),.int (.ofNat 1),.str iq]),
 (zq,.tuple [.int (.ofNat 1),.int (.ofNat 1),.str Ub]),
 (zr,.tuple [.int (.ofNat 3),.int (.ofNat 1),.str aI]),
 (zt,.tuple [.int (.ofNat 1),.int (.ofNat 1),.str aI]),
 (qS,.tuple [.int (.ofNat 1),.int (.ofNat 1),.str aI]),
 (da,.tuple [.int (.ofNat 1),.int (.ofNat 1),.str iq]),
 (J2,.tuple [.int (.ofNat 1),.int (.ofNat 0),.str aI]),
 (fV,.tuple [.int (.ofNat 1),.int (.ofNat 1),.str aI]),
 (dc,.tuple [.int (.ofNat 1),.int (.ofNat 1),.str aI]),
 (jL,.tuple [.int (.ofNat 0),.int (.ofNat 0),.str MA]),
 (mE,.tuple [.int (.ofNat 1),.int (.ofNat 0),.str MA]),
 (J5,.tuple [.int (.ofNat 1),.int (.ofNat 0),.str MA]),
 (Hm,.tuple [.int (.ofNat 1),.int (.ofNat 0),.str MA]),
 (J6,.tuple [.int (.ofNat 1),.int (.ofNat 0),.str MA]),
 (m8,.tuple [.int (.ofNat 0),.int (.ofNat 0),.str iq]),
 (ba,.tuple [.int (.ofNat 0),.int (.ofNat 0),.str iq]),
 (M6,.tuple [.int (.ofNat 2),.int (.ofNat 0),.str aI]),
 (BG,.tuple [.int (.ofNat 1),.int (.ofNat 0),.str J7]),
 (Ed,.tuple [.int (.ofNat 2),.int (.ofNat 1),.str yv]),
 (Hn,.tuple [.int (.ofNat 1),.int (.ofNat 0),.str yv]),
 (M7,.tuple [.int (.ofNat 0),.int (.ofNat 0),.str iq]),
 (qV,.tuple [.int (.ofNat 0),.int (.ofNat 0),.str iq]),
 (BB,.tuple [.int (.ofNat 1),.int (.ofNat 0),.str aI]),
 (gk,.tuple [.int (.ofNat 0),.int (.ofNat 0),.str iq]),
 (qU,.tuple [.int (.ofNat 0),.int (.ofNat 0),.str J7]),
 (fM,.tuple [.int (.ofNat 0),.int (.ofNat 0),.str aI]),
 (Qt,.tuple [.int (.ofNat 0),.int (.ofNat 0),.str aI]),
 (Ho,.tuple [.int (.ofNat 0),.int (.ofNat 0),.str aI]),
 (BH,.tuple [.int (.ofNat 0),.int (.ofNat 0),.str aI]),
 (fb,.tuple [.int (.ofNat 0),.int (.ofNat 0),.str aI]),
 (gf,.tuple [.int (.ofNat 0),.int (.ofNat 0),.str aI]),
 (vA,.tuple [.int (.ofNat 0),.int (.ofNat 0),.str aI]),
 (vB,.tuple [.int (.ofNat 0),.int (.ofNat 0),.str aI]),
 (vC,.tuple [.int (.ofNat 1),.int (.ofNat 0),.str aI]),
 (vn,.tuple [.int (.ofNat 0),.int (.ofNat 1),.str iq]),
 (Ue,.tuple [.int (.ofNat 0),.int (.ofNat 1),.str jh]),
 (M8,.tuple [.int (.ofNat 1),.int (.ofNat 0),.str Ub]),
 (BI,.tuple [.int (.ofNat 0),.int (.ofNat 0),.str iY]),
 (BJ,.tuple [.int (.ofNat 0),.int (.ofNat 1),.str iq]),
 (Ee,.tuple [.int (.ofNat 2),.int (.ofNat 0),.str iq]),
 (BK,.tuple [.int (.ofNat 1),.int (.ofNat 0),.str iq]),
 (zu,.tuple [.int (.ofNat 0),.int (.ofNat 0),.str jh]),
 (Hp,.tuple [.int (.ofNat 0),.int (.ofNat 0),.str iq]),
 (J8,.tuple [.int (.ofNat 0),.int (.ofNat 0),.str iq]),
 (Hq,.tuple [.int (.ofNat 0),.int (.ofNat 0),.str jh]),
 (Hr,.tuple [.int (.ofNat 0),.int (.ofNat 0),.str jh]),
 (Ef,.tuple [.int (.ofNat 1),.int (.ofNat 0),.str iq]),
 (iC,.tuple [.int (.ofNat 0),.int (.ofNat 0),.str aI]),
 (cu,.tuple [.int (.ofNat 1),.int (.ofNat 0),.str M9]),
 (dJ,.tuple [.int (.ofNat 1),.int (.ofNat 0),.str jO]),
 (bw,.tuple [.int (.ofNat 0),.int (.ofNat 0),.str Hs]),
 (cO,.tuple [.int (.ofNat 0),.int (.ofNat 0),.str iq]),
 (qk,.tuple [.int (.ofNat 0),.int (.ofNat 1),.str aI]),
 (bN,.tuple [.int (.ofNat 1),.int (.ofNat 1),.str iY]),
 (de,.tuple [.int (.ofNat 2),.int (.ofNat 1),.str jh]),
 (eG,.tuple [.int (.ofNat 1),.int (.ofNat 1),.str iq]),
 (bB,.tuple [.int (.ofNat 1),.int (.ofNat 0),.str Na]),
 (bE,.tuple [.int (.ofNat 1),.int (.ofNat 0),.str iq]),
 (d5,.tuple [.int (.ofNat 1),.int (.ofNat 0),.str aI]),
 (cz,.tuple [.int (.ofNat 0),.int (.ofNat 0),.str Eg])]
noncomputable def G:Own:=⟨uG,.tuple [.str jL,.str BG,.str qV,.str BH,.str fb,.str vA,.str vB,.str vC,.str vn,.str bB],fun k=>match k with|0=>6|1=>7|2=>47|_=>0⟩
noncomputable def fnName:Nat->Str
 |1=>Eh
 |2=>BL
 |3=>Ei
 |4=>zv
 |5=>Ht
 |8=>Ug
 |9=>Ej
 |10=>Ek
 |11=>xG
 |12=>zw
 |13=>zx
 |14=>xH
 |15=>sL
 |16=>rg
 |17=>pP
 |18=>xI
 |19=>vD
 |20=>vE
 |21=>zy
 |22=>BM
 |23=>xJ
 |24=>Hu
 |25=>BN
 |26=>BO
 |27=>zz
 |28=>BP
 |29=>zA
 |30=>zB
 |31=>zC
 |32=>xK
 |33=>zD
 |34=>xM
 |35=>BQ
 |36=>sM
 |37=>ub
 |38=>xN
 |39=>vF
 |40=>qp
 |41=>sN
 |42=>xO
 |43=>xP
 |44=>zE
 |45=>zF
 |46=>BR
 |48=>xQ
 |49=>Hv
 |50=>El
 |51=>Hw
 |52=>Em
 |53=>En
 |54=>BU
 |55=>BV
 |56=>BW
 |57=>BX
 |58=>BY
 |59=>zG
 |60=>xR
 |61=>xS
 |62=>xT
 |63=>vG
 |64=>zH
 |65=>Eo
 |66=>BZ
 |67=>zI
 |68=>Ep
 |69=>zJ
 |70=>B1
 |71=>zK
 |72=>Er
 |73=>Hx
 |74=>Es
 |75=>B2
 |76=>Hy
 |77=>vH
 |78=>zL
 |79=>Et
 |80=>xU
 |81=>uc
 |82=>rh
 |83=>Eu
 |84=>vJ
 |85=>Uh
 |_=>aI
noncomputable def clsName:Nat->Str
 |0=>O4
 |1=>vK
 |2=>vL
 |3=>J9
 |_=>aI
noncomputable def NN:Nm:=⟨fnName,clsName,ri,pj,[iW,sD,c9,lO,gY,j0,sJ,cV,aN,sI,j1,uF,eX,dn,vt,m7,bT,n6,bo,eg]⟩
end jB
namespace jB
open PySem PySem.W PyProof.Rows PySem.Challenge
section
set_option maxRecDepth 100000
noncomputable def faL:List Nat:=[151,165,172,179,186,193,207,228,242,249,256,261,268,275,282,289,296,303,310,315,322,329,336,343,350,355,362,369,376,383,390,397,404,411,418,425,432,439,446,453,460,465,472,479,486,493,500,514,528,535,542,549,556,563,570,577,584,591,598,605,612,619,626,633,640,647,654,661,666,673,680,687,694,699,706,713,720,727,734,741,748,755,762,769,774,779]
noncomputable def ixL:List Nat:=[6,7,8,9,10,11,13,14,15,16,17,18,19,20,21,22,23,24,25,26,28,29,31,32,33,34,35,36,37,38,39,40,41,42,44,45,46,47,48,49,50,51,52,53,54,55,56,58,60,61,62,63,64,65,66,67,68,69,70,71,72,73,74,75,76,78,79,80,81,82,83,84,85,86,87,88,89,90,91,92,93,94,95,96,97,98]
noncomputable def fa(f:Nat):Nat:=faL.getD f 779
noncomputable def ca(k:Nat):Nat:=match k with|0=>210|1=>231|2=>517|_=>154
noncomputable def qv:Program:=view pw [98]
noncomputable def l9:List Str:=(List.range 85).map fnName++[O4,vK,vL,J9,ri,pj, "AdaError", "BadCode"]
noncomputable def pick:Option Stmt->Option (Str×List Stmt×Scope×Arguments)
 |some (.FunctionDef n ar b _ _ _ sc _ _ _)=>some (n,b,sc,ar)
 |some (.ClassDef c _ _ b _ _ _ _ _ _ _)=>match b with
  |.FunctionDef n ar b _ _ _ sc _ _ _::_=>some (c++ "." ++n,b,sc,ar)
  |_=>none
 |_=>none
noncomputable def textOf(f:Nat):Option (Str×List Stmt×Scope×Arguments):=pick iU[ixL.getD f 98]?
noncomputable def O5{α:Type}(d:Data)(K:FuncData->Option α):Option α:=by
 induction d using Data.casesOn with
 |func fd=>exact K fd
 |_=>exact none
theorem Gi{α:Type}{P:Prop}{x:α}{d:Data}{K:FuncData->Option α}(h:O5 d K=some x)(H:∀fd,d=.func fd->K fd=some x->P):P:=by
 revert h H
 induction d using Data.casesOn with
 |func fd=>exact fun h H=>H fd rfl h
 |_=>exact fun h _=>Bh h
noncomputable def Qu{α:Type}(d:Value)(K:Addr->Option α):Option α:=by
 induction d using Value.casesOn with
 |ref a=>exact K a
 |_=>exact none
theorem Ka{α:Type}{P:Prop}{x:α}{d:Value}{K:Addr->Option α}(h:Qu d K=some x)(H:∀a,d=.ref a->K a=some x->P):P:=by
 revert h H
 induction d using Value.casesOn with
 |ref a=>exact fun h H=>H a rfl h
 |_=>exact fun h _=>Bh h
noncomputable def Gj{α:Type}(d:Data)(K:Array Value->Option α):Option α:=by
 induction d using Data.casesOn with
 |fields vs=>exact K vs
 |_=>exact none
theorem HH{α:Type}{P:Prop}{x:α}{d:Data}{K:Array Value->Option α}(h:Gj d K=some x)(H:∀vs,d=.fields vs->K vs=some x->P):P:=by
 revert h H
 induction d using Data.casesOn with
 |fields vs=>exact fun h H=>H vs rfl h
 |_=>exact fun h _=>Bh h
noncomputable def Ul{α:Type}(l:List Value)(K:Str->Option α):Option α:=by
 induction l using List.casesOn with
 |nil=>exact none
 |cons k l=>
  induction l using List.casesOn with
  |nil=>exact none
  |cons v l=>
   induction v using Value.casesOn with
   |str q t=>exact K q
   |_=>exact none
theorem Qv{α:Type}{P:Prop}{x:α}{l:List Value}{K:Str->Option α}(h:Ul l K=some x)(H:∀k q t r,l=k::.str q t::r->K q=some x->P):P:=by
 revert h H
 induction l using List.casesOn with
 |nil=>exact fun h _=>Bh h
 |cons k l=>
  induction l using List.casesOn with
  |nil=>exact fun h _=>Bh h
  |cons v l=>
   induction v using Value.casesOn with
   |str q t=>exact fun h H=>H k q t l rfl h
   |_=>exact fun h _=>Bh h
theorem uH{α β:Type}{P:Prop}{x:β}{o:Option α}{K:α->Option β}(h:o.bind K=some x)(H:∀a,o=some a->K a=some x->P):P:=by
 revert h H
 induction o using Option.casesOn with
 |none=>exact fun h _=>Bh h
 |some a=>exact fun h H=>H a rfl h
noncomputable def yw(g:Nat->Option Obj)(a:Nat):Option (FuncBody×Scope×List (Str×Addr)×Nat×Nat×Value×Arguments×Str×Str):=
 (g a).bind fun o=>O5 o.data fun fd=>Qu fd.code fun c=>(g c).bind fun oc=>Gj oc.data fun vs=>Ul vs.toList fun q=>some (fd.body,fd.scope,fd.closure,fd.globals,fd.builtins,fd.defaults,fd.params,fd.qualname,q)
set_option backward.match.sparseCases true in
noncomputable def yx(g:Nat->Option Obj)(a:Nat):Bool:=match g a with
 |some o=>(match o.data with|.dict es _=>es.all (fun e=>match e.key with|.str _ _=>true|_=>false)|_=>false)
 |none=>false
set_option backward.match.sparseCases true in
noncomputable def Qw(g:Nat->Option Obj)(a:Nat)(name:Str):Option Value:=match g a with
 |some o=>(match o.data with|.dict es _=>nsFind es name|_=>none)
 |none=>none
noncomputable def Qx(t:SharedT)(a:Nat):Option Obj:=match Nat.blt a t.n with
 |true=>match t.tree.get a with
  |some o=>alive o
  |none=>none
 |false=>none
noncomputable def Kb(f:Nat):Option (FuncBody×Scope×List (Str×Addr)×Nat×Nat×Value×Arguments×Str×Str):=match textOf f with
 |some (q,b,sc,ar)=>some (.stmts b,sc,[],mainGlobals,builtinsNs,.none,ar,q,q)
 |none=>none
noncomputable def K0(P:Params):Frag:=Z3 P++[(154,{cls:=si,data:=.cls {name:= "Code",bases:=[.type "object"],mro:=[.ref 154,.type "object"],ns:=153,qualname:= "Code" },slots:=#[none,none,some (.str "Code" 673),some (.str "Code" 681),some (.builtin "object.__new__"),some (.bool true)]}),(153,di [en P "__module__" 680 (.str "adacore.ops" 234),en P "__firstlineno__" 684 (.int 12 683),en P "__init__" 694 (.ref 151),en P "__static_attributes__" 700 (.ref 152),en P "__dict__" 702 (.ref 155),en P "__weakref__" 704 (.ref 156),en P "__doc__" 705 .none] 4),(210,{cls:=si,data:=.cls {name:= "Gen",bases:=[.type "object"],mro:=[.ref 210,.type "object"],ns:=209,qualname:= "Gen" },slots:=#[none,none,some (.str "Gen" 759),some (.str "Gen" 767),some (.builtin "object.__new__"),some (.bool true)]}),(209,di [en P "__module__" 766 (.str "adacore.gen" 757),en P "__firstlineno__" 770 (.int 62 769),en P "__init__" 778 (.ref 207),en P "__static_attributes__" 788 (.ref 208),en P "__dict__" 790 (.ref 211),en P "__weakref__" 792 (.ref 212),en P "__doc__" 793 .none] 4),(231,{cls:=si,data:=.cls {name:= "OpenPart",bases:=[.type "object"],mro:=[.ref 231,.type "object"],ns:=230,qualname:= "OpenPart" },slots:=#[none,none,some (.str "OpenPart" 796),some (.str "OpenPart" 804),some (.builtin "object.__new__"),some (.bool true)]}),(230,di [en P "__module__" 803 (.str "adacore.gen" 757),en P "__firstlineno__" 807 (.int 74 806),en P "__init__" 816 (.ref 228),en P "__static_attributes__" 821 (.ref 229),en P "__dict__" 823 (.ref 232),en P "__weakref__" 825 (.ref 233),en P "__doc__" 826 .none] 4),(517,{cls:=si,data:=.cls {name:= "TaskBody",bases:=[.type "object"],mro:=[.ref 517,.type "object"],ns:=516,qualname:= "TaskBody" },slots:=#[none,none,some (.str "TaskBody" 1215),some (.str "TaskBody" 1223),some (.builtin "object.__new__"),some (.bool true)]}),(516,di [en P "__module__" 1222 (.str "adacore.bodies" 1213),en P "__firstlineno__" 1226 (.int 350 1225),en P "__init__" 1234 (.ref 514),en P "__static_attributes__" 1241 (.ref 515),en P "__dict__" 1243 (.ref 518),en P "__weakref__" 1245 (.ref 519),en P "__doc__" 1246 .none] 4),(137,tu [.str "jump" 662,.str "choose" 663,.str "raise" 664,.str "endsub" 665,.str "endbody" 666,.str "endentry" 667,.str "enddecls" 668,.str "endvalue" 669,.str "refuse" 670,.str "select" 671]),(151,Sw "Code.__init__" (oX iU[6]?) 3 (.str "adacore.ops" 234) (.ref 150) k8),(207,Sw "Gen.__init__" (oX iU[13]?) 3 (.str "adacore.gen" 757) (.ref 206) k8),(228,Sw "OpenPart.__init__" (oX iU[14]?) 3 (.str "adacore.gen" 757) (.ref 227) k8),(514,Sw "TaskBody.__init__" (oX iU[58]?) 3 (.str "adacore.bodies" 1213) (.ref 513) k8)]
noncomputable def kA:List Nat:=(List.range 90).map (47+·)++[154,153,210,209,231,230,517,516,137,151,207,228,514]
noncomputable def Nb(g:Nat->Option Obj):=(yx g mainGlobals,(List.range 86).map (fun f=>yw g (fa f)),(List.range 86).map (fun f=>Qw g mainGlobals (fnName f)),(List.range 4).map (fun k=>Qw g mainGlobals (clsName k)),Qw g mainGlobals ri,Qw g mainGlobals pj,kA.map g,(g sysModules).isSome)
noncomputable def obs(s:Shared):=Nb s.heap.get?
noncomputable def val(w:World):Bool×List (Option (FuncBody×Scope×List (Str×Addr)×Nat×Nat×Value×Arguments×Str×Str))×List (Option Value)×List (Option Value)×Option Value×Option Value×List (Option Obj)×Bool:=
 (true,(List.range 86).map Kb,(List.range 86).map (fun f=>match(fnName f).cps.toList with|[]=>none|_=>some (.ref (fa f))),(List.range 4).map (fun k=>some (.ref (ca k))),some (.ref 47),some (.ref 137),(K0 w.params).map (fun p=>some p.2),true)
noncomputable def Kc:List Str:=importedModules pw.main.body
noncomputable def O6(w:World)(s:Shared):=((staticsOk Kc (boot_heap w.params) s.heap&&namesBound pw s.heap&&gensDone s&&laidKept (boot_heap w.params) s.heap),openSeen qv l9 Kc (fun _=>true) true s)
noncomputable def good:=(true,openGood qv l9)
end
section
set_option maxRecDepth 100000
theorem Yi:∀(w:World) (os:OsState),(segRunT treeTable pw w 11 uU 1 4500 (S2 w os) (piecesOf (iU.drop 5) Be k9 p2 B0)).map (fun r=>(r.1,r.2.2,O6 w r.2.1.abs,Nb (Qx r.2.1)))=some (.next,(k9,p3),good,val w):=fun w os=>by kernel_rfl
end
section
set_option maxRecDepth 100000
theorem Yj(w:World)(s:Shared)(c:Code)(p:Pos):topRun treeTable pw w 11 uU 3 s (restOf [] Be c p B0)=some s:=by
 obtain⟨h,g,d,t,os⟩:=s;rfl
theorem Yk(w:World)(os:OsState):segRunT treeTable pw w 11 uU 1 2100 (S1 w os) (piecesOf ((iU.drop 4).take 1) Be k9 p1 B0)=some (.next,S2 w os,k9,p2):=by
 have e:=World.withFollow_self w ML;cases hb:w.params.followText ML<;>rw[hb]at e
 ·have h:=Tn w os;rw[e]at h;exact h
 ·have h:=To w os;rw[e]at h;exact h
theorem Qy(w:World)(s:Shared):segRun treeTable pw w 11 uU 1 1 s (blockOf iU Be k9 default B0)=some (.next,s,k9,default):=by
 obtain⟨h,g,d,t,os⟩:=s;rfl
set_option tactic.hygienic true in
theorem Kd{t:SharedT}{a:Nat}{o:Obj}(h:Qx t a=some o):t.abs.heap.get? a=some o:=by
 unfold Qx at h;split at h
 ·rename_i e;split at h
  ·rename_i o' e';exact(abs_get (Nat.le_of_ble_eq_true e) e').trans h
  ·rcases h with _|_
 ·rcases h with _|_
theorem HI{β:Type}{f f':Nat->Option β}{h:Nat->Option β}:∀{l:List Nat},(∀a x,f a=some x->f' a=some x)->(∀a∈l,(h a).isSome=true)->l.map f=l.map h->l.map f'=l.map h:=by
 intro l0
 induction l0 with
 |nil=>
  intro _ _ _;exact rfl
 |cons a l ih=>
  intro q s e;obtain⟨e1,e2⟩:=List.cons.inj e;obtain⟨x,hx⟩:=Option.isSome_iff_exists.mp (s a List.mem_cons_self);show f' a::l.map f'=h a::l.map h;rw[hx,q _ _ (e1.trans hx),ih q (fun a m=>s a (List.mem_cons_of_mem _ m)) e2]
section
variable{g g':Nat->Option Obj}(k:∀a o,g a=some o->g' a=some o)
include k
set_option tactic.hygienic true in
theorem HJ{a:Nat}(e:yx g a=true):yx g' a=true:=by
 unfold yx at e⊢;split at e
 ·rename_i o ho;refine az (k _ _ ho) ?_;exact e
 ·rcases e with _|_
set_option tactic.hygienic true in
theorem Nc{a:Nat}(e:yx g a=true)(x:Str):Qw g' a x=Qw g a x:=by
 unfold yx at e;unfold Qw;split at e
 ·rename_i o ho;rw[k _ _ ho]
 ·rcases e with _|_
set_option tactic.hygienic true in
theorem HK{a:Nat}{x:FuncBody×Scope×List (Str×Addr)×Nat×Nat×Value×Arguments×Str×Str}(e:yw g a=some x):yw g' a=some x:=by
 refine uH e fun o ho e=>Gi e fun fd Yl e=>Ka e fun c hc e=>uH e fun oc Ym e=>?_;unfold yw;rw[k _ _ ho,Option.bind_some,Yl];show Qu fd.code _=_;rw[hc];show(g' c).bind _=_;rw[k _ _ Ym];exact e
theorem map_mono{β:Type}{m:β->Obj}:∀{l:List Nat} {r:List β},l.map g=r.map (fun p=>some (m p))->l.map g'=r.map fun p=>some (m p):=by
 intro l0
 induction l0 with
 |nil=>
  intro l1;rcases l1 with _|⟨y,ys⟩
  ·intro _;exact rfl
  ·intros;first|contradiction|(exfalso;assumption)
 |cons a l ih=>
  intro l1;rcases l1 with _|⟨p,r⟩
  ·intros;first|contradiction|(exfalso;assumption)
  ·intro e;obtain⟨e1,e2⟩:=List.cons.inj e;show g' a::l.map g'=some (m p)::r.map _;rw[k _ _ e1,ih e2]
theorem Ke{w:World}(e:Nb g=val w):Nb g'=val w:=by
 refine bc fun bf=>?_;obtain⟨e1,e⟩:=Prod.mk.inj e;obtain⟨e2,e⟩:=Prod.mk.inj e;obtain⟨e3,e⟩:=Prod.mk.inj e;obtain⟨e4,e⟩:=Prod.mk.inj e;obtain⟨e5,e⟩:=Prod.mk.inj e;obtain⟨e6,e⟩:=Prod.mk.inj e;obtain⟨e7,e8⟩:=Prod.mk.inj e;refine bf ?_;have n:=Nc k e1;refine Prod.mk.injEq ..▸⟨HJ k e1,Prod.mk.injEq ..▸⟨?_,Prod.mk.injEq ..▸⟨?_,Prod.mk.injEq ..▸⟨?_,Prod.mk.injEq ..▸⟨(n _).trans e5,Prod.mk.injEq ..▸⟨(n _).trans e6,Prod.mk.injEq ..▸⟨map_mono k e7,?_⟩⟩⟩⟩⟩⟩⟩
 ·exact HI (f:=fun f=>yw g (fa f)) (h:=Kb) (fun a x=>HK k) (by decide+kernel) e2
 ·exact(List.map_congr_left fun f _=>n _).trans e3
 ·exact(List.map_congr_left fun f _=>n _).trans e4
 ·obtain⟨o,ho⟩:=Option.isSome_iff_exists.mp e8;refine az (k _ _ ho) ?_;rfl
end
theorem Yn(w:World)(os:OsState):∃bQ,topRun treeTable pw w 11 uU 8000 ⟨boot_heap w.params,#[],boot_drawn,boot_toks,os⟩ (topStub pw)=some bQ/\O6 w bQ=good/\obs bQ=val w:=by
 refine bc fun bf=>?_;obtain⟨⟨f,t,c,p⟩,hs,e⟩:=Option.map_eq_some_iff.mp (Yi w os);obtain⟨rfl,e⟩:=Prod.mk.inj e;obtain⟨e1,e⟩:=Prod.mk.inj e;obtain⟨e,e'⟩:=Prod.mk.inj e;obtain⟨rfl,rfl⟩:=Prod.mk.inj e1;refine bf ?_;refine⟨t.abs,?_,e,Ke (fun _ _=>Kd) e'⟩;have k3:=piece_app (segRun_of hs) (Yj w t.abs k9 p3);have k2:=piece_app (segRun_of (Yk w os)) k3;have k1:=piece_app (segRun_of (Xh w os)) k2;have e:iU.take 4++((iU.drop 4).take 1++(iU.drop 5++[]))=iU:=by
  rw[List.append_nil,show iU.drop 5=(iU.drop 4).drop 1 by rw[List.drop_drop],List.take_append_drop,List.take_append_drop]
 rw[e]at k1;have k0:=go_top (Xg w os) (piece_block (Qy w _) k1);exact topRun_mono 884 _ _ _ _ k0
end
section
set_option maxRecDepth 100000
theorem Um:LeftO pw qv l9 (fun _=>true) obs val 13000:=fun w=>by
 have b:=boot_open (p:=pw) (N:=13000) rfl rfl (fun _=>rfl) w;obtain⟨⟨h,gs,d,k,os⟩,e,e'⟩:=Option.map_eq_some_iff.mp b;obtain⟨rfl,rfl,rfl,rfl⟩:h=boot_heap w.params/\gs=Array.mk []/\d=boot_drawn/\k=boot_toks:=by simpa using e'
 obtain⟨bQ,r,l,lo⟩:=Yn w os;obtain⟨l1,l2⟩:=Prod.mk.inj l;have r:=topRun_mono 5000 _ _ _ _ r;have z1:((boot_heap w.params).isNs mainGlobals&&(Array.mk ([]:List GenState)).size==0)=true:=by kernel_rfl
 have z2:(boot_heap w.params).objs.size=11:=by kernel_rfl
 have z3:(boot_heap w.params).nsMap mainGlobals "__annotations__" =uU:=by kernel_rfl
 have t:topFrom treeTable pw w 13000 ⟨boot_heap w.params,Array.mk [],boot_drawn,boot_toks,os⟩=some bQ:=by
  unfold topFrom;dsimp only;rw[z1,z2,z3];rw[show topRun treeTable pw w 11 uU 13000 ⟨boot_heap w.params,Array.mk [],boot_drawn,boot_toks,os⟩ (topStub pw)=some bQ from r];show(match(staticsOk Kc (boot_heap w.params) bQ.heap&&namesBound pw bQ.heap&&gensDone bQ&&laidKept (boot_heap w.params) bQ.heap)with|true=>_|false=>_)=_;rw[l1]
 show((fencedOpening treeTable pw w 13000).bind (topFrom treeTable pw w 13000)).map _=_;rw[e];show(topFrom treeTable pw w 13000 _).map _=_;rw[t];exact congrArg some (Prod.ext l2 lo)
end
end jB
namespace jB
open PySem PySem.W PySem.Calls PyProof.Rows
noncomputable abbrev NE:Value->Shared->Prop:=fun _ _=>False
theorem cQ{α:Type}{M:Model}{A:Around}{t:Sem α}{Q Q':α->Shared->Prop}{s:Shared}(h:wpAny M A t Q NE s)(k:∀v s',Q v s'->Q' v s'):wpAny M A t Q' NE s:=
 wpAny_mono h k fun _ _ x=>x
structure iH(W:Wd)(N:Nm)(G:Own):Prop where
 Nd:W.K.In W.h₀
 g:W.h₀.Ns mainGlobals W.mg
 b:W.h₀.Ns builtinsNs W.mb
 fn:∀f,eZ (N.fn f) m6=false->W.mg (N.fn f)=some (.ref (W.fa f))
 Qz:∀f,∃o fd,W.h₀.get? (W.fa f)=some o/\o.data=.func fd
 cls:∀k,eZ (N.cls k) m6=false->W.mg (N.cls k)=some (.ref (W.ca k))
 tab:W.mg N.tab=some (.ref W.sa)
 tup:∃v,W.mg N.tup=some v/\dP W.h₀ G.tup v
 bl:W.mg yn=none/\W.mb yn=some (.builtin "len")
 br:W.mg zc=none/\W.mb zc=some (.type "range")
 bs:W.mg JG=none/\W.mb JG=some (.type "str")
 Yo:W.mg DW=none/\W.mb DW=some (.type "list")
 bt:W.mg zd=none/\W.mb zd=some (.type "tuple")
 nolimit:W.h₀.NoLimit
 sys:∃o,W.h₀.get? sysModules=some o
 nodigits:W.h₀.NoDigits
 Yp:∀k x,ua x N.attrs=true->findIn W.K (.ref (W.ca k)) x=some none
 cga:∀k,findIn W.K (.ref (W.ca k)) "__getattribute__" =some (some (.builtin "object.__getattribute__"))
 csa:∀k,findIn W.K (.ref (W.ca k)) "__setattr__" =some (some (.builtin "object.__setattr__"))
 Yq:∀k,hasDictIn W.K (W.ca k)=true
 cpl:∀k,plainOver W.K (W.ca k)=true
 cmk:∀k,makesIn W.K (W.ca k)=true
 cin:∀k,findIn W.K (.ref (W.ca k)) "__init__" =some (some (.ref (W.fa (G.init k))))
 cfn:∀k,typeIn W.K (.ref (W.fa (G.init k)))=some (.type "function")
 ckp:∀k,keepIn W.K (.ref (W.ca k))=true
 Nf:∃f:Str->Option Value,Heap.MapOf (strKind W.prog W.w) W.h₀ W.sa f/\(W.sa==sysModules)=false/\∀x,match dE x G.tab with
  |some d=>∃v,f x=some v/\dP W.h₀ d v
  |none=>f x=none
structure iu(d n:Nat)(A:Around):Prop where
 handled:A.handled=none
 depth:A.depth+2*d+n<800
 units:A.units+100*d+5*n<9000
 guards:A.guards=some []
theorem iu.le{d n m:Nat}{A:Around}(a:iu d n A)(h:m<=n):iu d m A:=⟨a.handled,by have:=a.depth;exact aZ h this,by have:=a.units;exact aZ (qe 5 h) this,a.guards⟩
theorem iu.cl{d n:Nat}{A:Around}(a:iu d n A){k:Nat}(h:k<=800):A.units+k<cLine:=by have:=a.units;show _<9900;exact aZ h this
section
variable{W:Wd}{N:Nm}{G:Own}
structure dO(W:Wd)(env:Env)(ê:ak)(g:Gh)(σ:St)(s:Shared)(g':Gh)(aF:St)(s':Shared):Prop where
 inv:Inv W g' aF s'.heap
 bJ:aS W g' env ê s'.heap
 post:gc g σ s.heap g' aF s'.heap
 gens:s'.gens=s.gens
 os:s'.os=s.os
theorem dO.trans{env:Env}{ê:ak}{g cD u0:Gh}{σ ab au:St}{s bQ pR:Shared}(a:dO W env ê g σ s cD ab bQ)(b:dO W env ê cD ab bQ u0 au pR):dO W env ê g σ s u0 au pR:=
 ⟨b.inv,b.bJ,a.post.trans b.post,b.gens.trans a.gens,b.os.trans a.os⟩
theorem dO.refl{env:Env}{ê:ak}{g:Gh}{σ:St}{s:Shared}(I:Inv W g σ s.heap)(C:aS W g env ê s.heap):dO W env ê g σ s g σ s:=⟨I,C,gc.refl _ _ _,rfl,rfl⟩
theorem dO.ke{env:Env}{ê:ak}{g:Gh}{σ:St}{s s':Shared}(I:Inv W g σ s.heap)(C:aS W g env ê s.heap)(k:∀b o,s.heap.get? b=some o->s'.heap.get? b=some o)(hg:s'.gens=s.gens)(ho:s'.os=s.os):dO W env ê g σ s g σ s':=
 have⟨I',P⟩:=I.ke k
 ⟨I',C.post P fun _=>rfl,P,hg,ho⟩
theorem dO.step{env:Env}{ê:ak}{g g':Gh}{σ aF:St}{s s':Shared}(C:aS W g env ê s.heap)(I':Inv W g' aF s'.heap)(P:gc g σ s.heap g' aF s'.heap)(hv:iM ê=true->aF.gen=σ.gen)(hg:s'.gens=s.gens)(ho:s'.os=s.os):dO W env ê g σ s g' aF s':=
 ⟨I',C.post P hv,P,hg,ho⟩
theorem dO.rep{env:Env}{ê:ak}{g g':Gh}{σ aF:St}{s s':Shared}(a:dO W env ê g σ s g' aF s'){m:ag}{v:Value}(r:bG W g m v)(hv:ku m=true->aF.gen=σ.gen):bG W g' m v:=r.mono a.post hv
noncomputable def aR(W:Wd)(env:Env)(ê:ak)(g:Gh)(σ:St)(s:Shared)(Q:KV):Value->Shared->Prop:=
 fun v s'=>∃m g' aF,Q m aF/\bG W g' m v/\dO W env ê g σ s g' aF s'
noncomputable def EI(W:Wd)(env:Env)(ê:ak)(g:Gh)(σ:St)(s:Shared)(Q:List ag->St->Prop):List Value->Shared->Prop:=
 fun vs s'=>∃ms g' aF,Q ms aF/\cc W g' ms vs/\jd ms=true/\dO W env ê g σ s g' aF s'
noncomputable def uh(W:Wd)(env:Env)(ê:ak)(g:Gh)(σ:St)(s:Shared)(Q:Bool->St->Prop):Bool->Shared->Prop:=
 fun b s'=>∃g' aF,Q b aF/\dO W env ê g σ s g' aF s'
noncomputable def Un(W:Wd)(env:Env)(ê:ak)(g:Gh)(σ:St)(s:Shared)(Q:St->Prop):Unit->Shared->Prop:=
 fun _ s'=>∃g' aF,Q aF/\dO W env ê g σ s g' aF s'
theorem aR.pre{env:Env}{ê:ak}{g cD:Gh}{σ ab:St}{s bQ:Shared}{Q:KV}(a:dO W env ê g σ s cD ab bQ){v:Value}{s':Shared}(h:aR W env ê cD ab bQ Q v s'):aR W env ê g σ s Q v s':=
 let⟨m,g',aF,q,r,n⟩:=h;⟨m,g',aF,q,r,a.trans n⟩
noncomputable def eh(W:Wd)(d:Nat)(f:Ev)(ck:Sc->E->Expr->Bool):Prop:=
 ∀(e:E) (x:Expr) (env:Env) (ê:ak) (g:Gh) (σ:St) (s:Shared) (Q:KV) (A:Around),ck env.scope.names e x=true->iu d 2 A->Inv W g σ s.heap->aS W g env ê s.heap->f e ê σ Q->
  wpAny (model W.prog W.w) A (eval x env) (aR W env ê g σ s Q) NE s
theorem aR.imp{env:Env}{ê:ak}{g:Gh}{σ:St}{s:Shared}{Q Q':KV}{v:Value}{s':Shared}(h:aR W env ê g σ s Q v s')(k:∀m aF,Q m aF->Q' m aF):aR W env ê g σ s Q' v s':=
 let⟨m,g',aF,q,r,n⟩:=h;⟨m,g',aF,k _ _ q,r,n⟩
theorem aR.go{M:Model}{A:Around}{env:Env}{ê:ak}{g:Gh}{σ:St}{s:Shared}{Q:KV}{R:Value->Shared->Prop}{t:Sem Value}(h:wpAny M A t (aR W env ê g σ s Q) NE s)
  (k:∀m v g' aF s',Q m aF->bG W g' m v->dO W env ê g σ s g' aF s'->R v s'):wpAny M A t R NE s:=
 cQ h fun v s' ⟨m,g',aF,q,r,n⟩=>k m v g' aF s' q r n
theorem aR.on{M:Model}{A:Around}{env:Env}{ê:ak}{g cD:Gh}{σ ab:St}{s bQ:Shared}{Q Q':KV}{t:Sem Value}(nx:dO W env ê g σ s cD ab bQ)(h:wpAny M A t (aR W env ê cD ab bQ Q) NE bQ)(k:∀m aF,Q m aF->Q' m aF):
 wpAny M A t (aR W env ê g σ s Q') NE bQ:=cQ h fun v s' o=>(o.imp k).pre nx
theorem fZ{v:ag}{σ aF:St}{P:Prop}(h:xC v σ aF P):(ku v=true->aF.gen=σ.gen)/\P:=by
 unfold xC at h;split at h
 ·exact⟨fun _=>h.1,h.2⟩
 ·rename_i e;exact⟨(fun z=>by rw[e]at z;rcases z with _|_),h⟩
theorem mG{ê:ak}{σ aF:St}{P:Prop}(h:pK ê σ aF P):(iM ê=true->aF.gen=σ.gen)/\P:=by
 unfold pK at h;split at h
 ·exact⟨fun _=>h.1,h.2⟩
 ·rename_i e;exact⟨(fun z=>by rw[e]at z;rcases z with _|_),h⟩
theorem sV:∀{l:Sc} {x:Str},dF l x=l.lookup x
 |[],_=>rfl
 |(y,k)::l,x=>by
  unfold dF dE;refine az (List.lookup_cons) ?_;cases q:eZ y x with
  |true=>
   have:=bj.mp q;subst this;simp
  |false=>
   have:(x==y)=false:=by
    rw[beq_eq_false_iff_ne];exact fun e=>iV.mp q e.symm
   refine az (this) ?_;exact sV (l:=l)
theorem f7{env:Env}{sc:Sc}(h:env.scope.names=sc)(x:Str):env.kindOf x=dF sc x:=by
 unfold Env.kindOf;rw[h,sV]
theorem EJ:m5=("__debug__" :Str):=by decide+kernel
theorem Cg:By=("__classdict__" :Str):=by decide+kernel
theorem cX{y x:Str}(h:ky y x=true):y=x/\(y==("__debug__" :Str))=false/\eZ x m6=false/\(y==("__classdict__" :Str))=false:=by
 unfold ky at h;simp only[Bool.and_eq_true,Bool.not_eq_true']at h;refine bc fun bf=>?_;obtain⟨⟨⟨a,b⟩,c⟩,d⟩:=h;refine bf ?_;have e:=bj.mp a;refine⟨e,?_,e▸c,?_⟩
 ·rw[beq_eq_false_iff_ne,<-EJ];exact iV.mp b
 ·rw[beq_eq_false_iff_ne,<-Cg];exact iV.mp d
theorem lu {env:Env} {h:Heap} {x:Str} {v:Value} {A:Around} {s:Shared} {Q:Value->Shared->Prop} {M:Model} {p:Pos} (hk:env.scope.kind=.function) (hh:X8 env s.heap x v) (hd:(x==("__debug__" :Str))=false) (q:Q v s) (xu:(x==("__classdict__" :Str))=false\/env.kindOf x≠some .free):
  wpAny M A (eval (.Name x p) env) Q NE s:=by
 refine wpAny_Name ?_ hd;rcases hh with⟨k,m,n,e⟩|⟨k,c,e,ic⟩
 ·exact wpAny_loadName_local hk k n e q
 ·rcases k with k|k
  ·exact wpAny_loadName_cell hk k e ic q
  ·exact wpAny_loadName_free hk k e ic q (xu.elim id fun z=>absurd k z)
end
section
variable{W:Wd}{N:Nm}{G:Own}{A:Around}{s:Shared}{g:Gh}{σ:St}{env:Env}{ê:ak}{d n:Nat}
theorem EK{prog:Program}{w:World}{E:Value->Shared->Prop}{l b:Addr}{vs ws:List Value}{Q:Value->Shared->Prop}(hl:s.heap.IsList l vs.toArray)(hb:s.heap.IsList b ws.toArray)
  (h:Q (.ref s.heap.objs.size) {s with heap:=s.heap.push {cls:=.type "list",data:=.seq (vs++ws).toArray}}) (WC:vs.length+ws.length<=sizeLine):
  wpAny (model prog w) A (binaryOp .Add (.ref l) (.ref b)) Q E s:=by
 refine bc fun bf=>?_;obtain⟨⟨cls,dd,data,sl⟩,ho,hc,n,hd⟩:=id hl;obtain⟨⟨Uo,O7,data2,O8⟩,xt,O9,n2,hd2⟩:=id hb;refine bf ?_;simp only at hc hd O9 hd2;subst hc hd O9 hd2;have e:vs.toArray++ws.toArray=(vs++ws).toArray:=by simp
 refine concat_meets ⟨_,ho,rfl⟩ ⟨_,xt,rfl⟩ noFill_list_add seq_list_add PySem.F.slot_list_add PySem.F.entry_list_add (PySem.F.args_list_add_2 _ _) (list_addW l b vs.toArray ws.toArray n n2 dd O7 sl O8 (by simpa using WC)) ⟨ho,xt,?_⟩;refine az (e) ?_;exact h
theorem Cj{prog:Program}{w:World}{E:Value->Shared->Prop}{t b:Addr}{vs ws:List Value}{Q:Value->Shared->Prop}(ht:IsTup s.heap t vs.toArray)(hb:IsTup s.heap b ws.toArray)
  (h0:vs=[]->Q (.ref b) s) (h1:ws=[]->Q (.ref t) s)
  (h2:Q (.ref s.heap.objs.size) {s with heap:=s.heap.push {cls:=.type "tuple",data:=.seq (vs++ws).toArray}}) (WC:vs.length+ws.length<=sizeLine):
  wpAny (model prog w) A (binaryOp .Add (.ref t) (.ref b)) Q E s:=by
 refine bc fun bf=>?_;obtain⟨⟨cls,dd,data,sl⟩,ho,hc,n,hd⟩:=id ht;obtain⟨⟨Uo,O7,data2,O8⟩,xt,O9,n2,hd2⟩:=id hb;refine bf ?_;simp only at hc hd O9 hd2;subst hc hd O9 hd2;have e:vs.toArray++ws.toArray=(vs++ws).toArray:=by simp
 by_cases hv:vs=[]
 ·exact concat_meets ⟨_,ho,rfl⟩ ⟨_,xt,rfl⟩ noFill_tuple_add seq_tuple_add PySem.F.slot_tuple_add PySem.F.entry_tuple_add (PySem.F.args_tuple_add_2 _ _)
   (tuple_addW0 t b vs.toArray ws.toArray n n2 dd O7 sl O8 (by simp[hv])) ⟨ho,xt,h0 hv⟩
 ·by_cases hw:ws=[]
  ·exact concat_meets ⟨_,ho,rfl⟩ ⟨_,xt,rfl⟩ noFill_tuple_add seq_tuple_add PySem.F.slot_tuple_add PySem.F.entry_tuple_add (PySem.F.args_tuple_add_2 _ _)
    (tuple_addW1 t b vs.toArray ws.toArray n n2 dd O7 sl O8 (by simpa using hv) (by simp[hw])) ⟨ho,xt,h1 hw⟩
  ·refine concat_meets ⟨_,ho,rfl⟩ ⟨_,xt,rfl⟩ noFill_tuple_add seq_tuple_add PySem.F.slot_tuple_add PySem.F.entry_tuple_add (PySem.F.args_tuple_add_2 _ _)
    (tuple_addW2 t b vs.toArray ws.toArray n n2 dd O7 sl O8 (by simpa using hv) (by simpa using hw) (by rw[List.size_toArray,List.size_toArray];exact WC)) ⟨ho,xt,?_⟩
   refine az (e) ?_;exact h2
theorem dO.push{ob:Obj}(I:Inv W g σ s.heap)(C:aS W g env ê s.heap)(hf:ob.isFreed=false):
  dO W env ê g σ s {g with B:=jD g.B s.heap.objs.size ob} σ {s with heap:=s.heap.push ob}:=by
 have hn:s.heap.get? s.heap.objs.size=none:=by
  cases q:s.heap.get? s.heap.objs.size with
  |none=>rfl
  |some o=>exact absurd (Heap.lt_size q) (Nat.lt_irrefl _)
 have⟨I',P⟩:=I.MP (h':=s.heap.push ob) (fun b o e=>Heap.get?_push_of_some _ e) hn (Heap.get?_push_size _ hf) hf;exact⟨I',C.post P fun _=>rfl,P,rfl,rfl⟩
theorem cY(h:Heap):h.get? h.objs.size=none:=by
 cases q:h.get? h.objs.size with
 |none=>rfl
 |some o=>exact absurd (Heap.lt_size q) (Nat.lt_irrefl _)
theorem jk(I:Inv W g σ s.heap){a:Addr}(hn:s.heap.get? a=none):g.B.get? a=none:=by
 cases q:g.B.get? a with
 |none=>rfl
 |some o=>rw[I.gM _ _ q]at hn;rcases hn with _|_
theorem lx{h:Heap}{v:Value}{xs:List D}(r:dP h (.list xs) v):∃a vs as,v=.ref a/\h.IsList a (List.toArray vs)/\ReadsAll h vs xs as:=by
 obtain⟨as,r⟩:=r;cases r with
 |list h1 h2 h3 h4=>exact⟨_,_,_,rfl,⟨_,h1,h2,_,h3⟩,by simpa using h4⟩
theorem gT{h:Heap}{v:Value}{xs:List D}(r:dP h (.tuple xs) v):∃a vs as,v=.ref a/\IsTup h a (List.toArray vs)/\ReadsAll h vs xs as:=by
 obtain⟨as,r⟩:=r;cases r with
 |tuple h1 h2 h3 h4=>exact⟨_,_,_,rfl,⟨_,h1,h2,_,h3⟩,by simpa using h4⟩
theorem i4{h:Heap}{v:Value}{i:Int}(r:dP h (.int i) v):∃t,v=.int i t:=by
 obtain⟨as,r⟩:=r;rcases r with _|_;exact⟨_,rfl⟩
theorem HL{h:Heap}{v:Value}{i:Str}(r:dP h (.str i) v):∃t,v=.str i t:=by
 obtain⟨as,r⟩:=r;rcases r with _|_;exact⟨_,rfl⟩
theorem EL{h:Heap}{v:Value}{i:Bool}(r:dP h (.bool i) v):v=.bool i:=by
 obtain⟨as,r⟩:=r;rcases r with _|_;rfl
theorem EM{h:Heap}{v:Value}(r:dP h .none v):v=.none:=by
 obtain⟨as,r⟩:=r;rcases r with _|_;rfl
@[elab_as_elim] theorem aK{h:Heap}{motive:Value->Prop}{v:Value}{i:Int}(r:dP h (.int i) v)(k:∀t,motive (.int i t)):motive v:=by
 obtain⟨t,rfl⟩:=i4 r;exact k t
@[elab_as_elim] theorem bx{h:Heap}{motive:Value->Prop}{v:Value}{i:Str}(r:dP h (.str i) v)(k:∀t,motive (.str i t)):motive v:=by
 obtain⟨t,rfl⟩:=HL r;exact k t
@[elab_as_elim] theorem dQ{h:Heap}{motive:Value->Prop}{v:Value}(r:dP h .none v)(k:motive .none):motive v:=by
 cases EM r;exact k
@[elab_as_elim] theorem jl{h:Heap}{motive:Value->Prop}{v:Value}{b:Bool}(r:dP h (.bool b) v)(k:motive (.bool b)):motive v:=by
 cases EL r;exact k
@[elab_as_elim] theorem cG{h:Heap}{motive:Value->Prop}{v:Value}{xs:List D}(r:dP h (.list xs) v)(k:∀a vs as,h.IsList a (List.toArray vs)->ReadsAll h vs xs as->motive (.ref a)):motive v:=by
 obtain⟨a,vs,as,rfl,h1,h2⟩:=lx r;exact k a vs as h1 h2
@[elab_as_elim] theorem du{h:Heap}{motive:Value->Prop}{v:Value}{xs:List D}(r:dP h (.tuple xs) v)(k:∀a vs as,IsTup h a (List.toArray vs)->ReadsAll h vs xs as->motive (.ref a)):motive v:=by
 obtain⟨a,vs,as,rfl,h1,h2⟩:=gT r;exact k a vs as h1 h2
theorem ib{h:Heap}(i:Int)(t:Tok):dP h (.int i) (.int i t):=⟨_,.int i t⟩
theorem nz{h:Heap}(i:Str)(t:Tok):dP h (.str i) (.str i t):=⟨_,.str i t⟩
theorem rz{h:Heap}(i:Bool):dP h (.bool i) (.bool i):=⟨_,.bool i⟩
theorem mH{h:Heap}:dP h .none .none:=⟨_,.none⟩
theorem readsAll_len{h:Heap}{vs:List Value}{xs:List D}{as:List Addr}(r:ReadsAll h vs xs as):vs.length=xs.length:=
 lh (motive:=fun vs xs=>vs.length=xs.length) rfl (fun _ _ _ _ _ _ _ _ ih=>congrArg (·+1) ih) r
theorem kC{h:Heap}{vs ws:List Value}{xs ys:List D}{as bs:List Addr}(q:ReadsAll h vs xs as)(r:ReadsAll h ws ys bs):∃cs,ReadsAll h (vs++ws) (xs++ys) cs:=
 lh (motive:=fun vs xs=>∃cs,ReadsAll h (vs++ws) (xs++ys) cs) ⟨_,r⟩ (fun _ _ _ _ _ _ a _ ⟨_,z⟩=>⟨_,.cons a z⟩) q
theorem bZ{h h':Heap}(k:∀b o,h.get? b=some o->h'.get? b=some o){a:Addr}{vs:Array Value}(r:h.IsList a vs):h'.IsList a vs:=
 let⟨o,ho,x⟩:=r;⟨o,k _ _ ho,x⟩
theorem cC{h h':Heap}(k:∀b o,h.get? b=some o->h'.get? b=some o){a:Addr}{vs:Array Value}(r:IsTup h a vs):IsTup h' a vs:=
 let⟨o,ho,x⟩:=r;⟨o,k _ _ ho,x⟩
theorem sW{a b:Nat}(h:a+b<=ah):a+b<=sizeLine:=by
 have:ah<=sizeLine:=by decide+kernel
 exact aZ h this
theorem QA{a:Int}(h:a.natAbs<=ah):Builtin.Int.intBits a<=64:=by
 have:a.natAbs<=1000000:=h;refine PySem.intBits_le_64 ?_ ?_
 ·omega
 ·omega
theorem outD{Q:KV}{s':Shared}{x:D}{v:Value}{g':Gh}(q:Q (.d x) σ)(r:dP g'.B x v)(nx:dO W env ê g σ s g' σ s'):aR W env ê g σ s Q v s':=⟨.d x,g',σ,q,r,nx⟩
@[elab_as_elim] theorem QB{motive:Op->D->D->Prop}{op:Op}{x y:D}{K:D->Prop}(h:MM op x y K)(h1:∀a b,K (.int (a+b))->motive .add (.int a) (.int b))(h2:∀a b,a.length+b.length<=ah/\K (.str (a++b))->motive .add (.str a) (.str b))
  (h3:∀a b,a.length+b.length<=ah/\K (.tuple (a++b))->motive .add (.tuple a) (.tuple b)) (h4:∀a b,a.length+b.length<=ah/\K (.list (a++b))->motive .add (.list a) (.list b)) (h5:∀a b,K (.int (a-b))->motive .sub (.int a) (.int b))
  (h6:∀a b,(a.natAbs<=ah/\b.natAbs<=ah)/\K (.int (a*b))->motive .mul (.int a) (.int b)) (h7:∀a b,(0<b/\a.natAbs<=ah/\b.natAbs<=ah)/\K (.int (Int.fdiv a b))->motive .fdiv (.int a) (.int b))
  (h8:∀a b,0<b/\K (.int (Int.fmod a b))->motive .mod (.int a) (.int b)) (h9:∀a b,(a=3/\0<=b/\b<12)/\K (.int (a ^ b.toNat))->motive .pow (.int a) (.int b)):motive op x y:=by
 induction op using Op.casesOn with
 |add=>rcases x with _|_<;>first|exact nf h|(rcases y with _|_<;>first|exact nf h|exact h1 _ _ h|exact h2 _ _ h|exact h3 _ _ h|exact h4 _ _ h)
 |sub=>rcases x with _|_<;>first|exact nf h|(rcases y with _|_<;>first|exact nf h|exact h5 _ _ h)
 |mul=>rcases x with _|_<;>first|exact nf h|(rcases y with _|_<;>first|exact nf h|exact h6 _ _ h)
 |fdiv=>rcases x with _|_<;>first|exact nf h|(rcases y with _|_<;>first|exact nf h|exact h7 _ _ h)
 |mod=>rcases x with _|_<;>first|exact nf h|(rcases y with _|_<;>first|exact nf h|exact h8 _ _ h)
 |pow=>rcases x with _|_<;>first|exact nf h|(rcases y with _|_<;>first|exact nf h|exact h9 _ _ h)
theorem QC(I:Inv W g σ s.heap)(C:aS W g env ê s.heap){op:Op}{o:Operator}{x y:D}{v w:Value}{K:D->Prop}(ho:Hg op o=true)(rx:dP g.B x v)(ry:dP g.B y w)(h:MM op x y K):
  wpAny (model W.prog W.w) A (binaryOp o v w) (aR W env ê g σ s fun m aF=>aF=σ/\∃z,m=.d z/\K z) NE s:=by
 have same:∀tk,dO W env ê g σ s g σ {s with toks:=tk}:=fun tk=>dO.ke I C (fun _ _ e=>e) rfl rfl;cases F4 ho;clear ho;revert rx ry;refine QB h ?_ ?_ ?_ ?_ ?_ ?_ ?_ ?_ ?_
 ·intro a b h rx ry;refine aK rx fun t=>?_;refine aK ry fun u=>?_;exact add_int (outD ⟨rfl,_,rfl,h⟩ (ib _ _) (same _))
 ·intro a b h rx ry;refine bx rx fun t=>?_;refine bx ry fun u=>?_;exact add_str (fun t' tk=>outD ⟨rfl,_,rfl,h.2⟩ (nz _ _) (same _)) (sW h.1)
 ·intro a b h rx ry;obtain⟨a,vs,as,rfl,ha,r1⟩:=gT rx;obtain⟨b,ws,bs,rfl,hb,r2⟩:=gT ry;refine Cj (cC I.gM ha) (cC I.gM hb) (fun e=>?_) (fun e=>?_) ?_ (by rw[readsAll_len r1,readsAll_len r2];exact sW h.1)
  ·subst e;rcases r1 with _|_;exact outD ⟨rfl,_,rfl,h.2⟩ ry (dO.refl I C)
  ·subst e;rcases r2 with _|_;exact outD ⟨rfl,_,rfl,h.2⟩ (by rw[List.append_nil];exact rx) (dO.refl I C)
  ·obtain⟨cs,r⟩:=kC r1 r2;refine outD ⟨rfl,_,rfl,h.2⟩ ?_ (dO.push I C rfl);exact⟨_,.tuple (fS rfl) rfl rfl (ReadsAll.keeps (fh rfl (jk I (cY _))) (by simpa using r))⟩
 ·intro a b h rx ry;refine cG rx fun a vs as ha r1=>?_;refine cG ry fun b ws bs hb r2=>?_;refine EK (bZ I.gM ha) (bZ I.gM hb) ?_ (by rw[readsAll_len r1,readsAll_len r2];exact sW h.1);obtain⟨cs,r⟩:=kC r1 r2;refine outD ⟨rfl,_,rfl,h.2⟩ ?_ (dO.push I C rfl);exact⟨_,.list (fS rfl) rfl rfl (ReadsAll.keeps (fh rfl (jk I (cY _))) (by simpa using r))⟩
 ·intro a b h rx ry;refine aK rx fun t=>?_;refine aK ry fun u=>?_;exact sub_int (outD ⟨rfl,_,rfl,h⟩ (ib _ _) (same _))
 ·intro a b h rx ry;refine aK rx fun t=>?_;refine aK ry fun u=>?_;exact mul_int (outD ⟨rfl,_,rfl,h.2⟩ (ib _ _) (same _)) (IntMulOk.of_left (QA h.1.1))
 ·intro a b h rx ry;refine aK rx fun t=>?_;refine aK ry fun u=>?_;exact floordiv_int (by omega) (outD ⟨rfl,_,rfl,h.2⟩ (ib _ _) (same _)) (.inl (PyProof.noPylong_small (by have:_<=1000000:=h.1.2.2;exact ai this)))
 ·intro a b h rx ry;refine aK rx fun t=>?_;refine aK ry fun u=>?_;exact mod_int' (by omega) (outD ⟨rfl,_,rfl,h.2⟩ (ib _ _) (same _))
 ·intro a b h rx ry;refine aK rx fun t=>?_;refine aK ry fun u=>?_;obtain⟨⟨rfl,h0,h1⟩,hk⟩:=h;by_cases hb:b=0
  ·subst hb;exact AutoIntOps.pow_0 (by decide) (by decide) (outD ⟨rfl,_,rfl,hk⟩ (ib _ _) (same _))
  ·refine AutoIntOps.pow_4 (by omega) (by simpa using hb) (by decide) (by decide) ?_ (outD ⟨rfl,_,rfl,hk⟩ (ib _ _) (same _));have:b=1\/b=2\/b=3\/b=4\/b=5\/b=6\/b=7\/b=8\/b=9\/b=10\/b=11:=by omega
   rcases this with rfl|rfl|rfl|rfl|rfl|rfl|rfl|rfl|rfl|rfl|rfl<;>decide+kernel
end
section
variable{W:Wd}{N:Nm}{G:Own}{A:Around}{s:Shared}{g:Gh}{σ:St}{env:Env}{ê:ak}{d n:Nat}
theorem EN{h:Heap}{a:Addr}{vs:Array Value}(t:IsTup h a vs):h.IsTuple a vs:=t
theorem ie(I:Inv W g σ s.heap){i:Nat}{c:List ag}{r:List D}(h:σ.nU i=some (.list c r)):∃p ws k,aq g.lb i=some (some p)/\g.O p.1=.b i/\s.heap.get? p.1=some (eu ws k)/\cc W g (items c r) ws:=by
 refine bc fun bf=>?_;obtain⟨p,e,ho,ws,k,hg,hr⟩:=I.cb i _ (iK.mp h);refine bf ?_;exact⟨p,ws,k,e,ho,hg,hr⟩
theorem fO{h:Heap}{a:Addr}{ws:List Value}{k:Nat}(e:h.get? a=some (eu ws k)):h.IsList a ws.toArray:=⟨_,e,rfl,k,rfl⟩
theorem d6:∀{l:List ag} {ws:List Value},cc W g l ws->ws.length=l.length:=by
 intro l0
 induction l0 with
 |nil=>
  intro l1;rcases l1 with _|⟨y0,nK⟩
  ·intro _;exact rfl
  ·intro z;exact z.elim
 |cons x0 Ji ih=>
  intro l1;rcases l1 with _|⟨y0,nK⟩
  ·intro z;exact z.elim
  ·rintro ⟨_,r⟩
   exact congrArg (·+1) (ih r)
theorem ig(c:List ag)(r:List D):(items c r).length=c.length+r.length:=by
 unfold items;rw[List.length_reverse,List.length_append,List.length_map]
theorem yz{B:Heap}{xs:List Str}{vs:List Value}{as:List Addr}(r:ReadsAll B vs (xs.map PyData.str) as)(j:Nat)(v:Value)(e:vs[j]?=some v):∃x t,xs[j]?=some x/\v=.str x t:=by
 have key:=lh (motive:=fun vs ds=>∀xs:List Str,ds=xs.map PyData.str->∀(j:Nat) (v:Value),vs[j]?=some v->∃x t,xs[j]?=some x/\v=.str x t) (fun _ _ _ _ e=>by simp at e) (fun v0 vs d ds _ _ a _ ih xs hx j v e=>by
  rcases xs with _|⟨x,xs⟩
  ·cases hx
  obtain⟨h1,h2⟩:=List.cons.inj hx;subst h1
  induction j using Nat.casesAuxOn with
  |zero=>simp at e;subst e;rcases a with _|_;exact⟨x,_,rfl,rfl⟩
  |succ j=>
   refine nW (ih xs h2 j v (by simpa using e)) fun y t h1 h2=>?_;exact⟨y,t,by simpa using h1,h2⟩) r
 exact key xs rfl j v e
theorem z5{xs ys:List Str}(hl:xs.length=ys.length):((List.range xs.length).all fun j=>(xs.getD j ⟨#[]⟩==ys.getD j ⟨#[]⟩))=decide (xs=ys):=by
 rw[Bool.eq_iff_iff,List.all_eq_true,decide_eq_true_iff];constructor
 ·intro h;apply List.ext_getElem hl;intro j h1 h2;have:=h j (List.mem_range.mpr h1);rw[beq_iff_eq]at this
  simpa [h1,h2]using this
 ·intro h j _;rw[h,beq_self_eq_true]
theorem HM{prog:Program}{w:World}{E:Value->Shared->Prop}{B:Heap}{l b:Addr}{vs ws:List Value}{xs ys:List Str}{as bs:List Addr}{Q:Value->Shared->Prop}(hl:s.heap.IsList l vs.toArray)(hb:s.heap.IsList b ws.toArray)
  (r1:ReadsAll B vs (xs.map PyData.str) as) (r2:ReadsAll B ws (ys.map PyData.str) bs) (hu:A.units<cLine) (h:Q (.bool (decide (xs=ys))) s):wpAny (model prog w) A (compareOp .Eq (.ref l) (.ref b)) Q E s:=by
 have l1:=readsAll_len r1;have l2:=readsAll_len r2;rw[List.length_map]at l1 l2;by_cases xw:xs.length=ys.length
 ·refine SeqAt.eq_listAt (e:=fun j=>(xs.getD j ⟨#[]⟩==ys.getD j ⟨#[]⟩)) hl hb (by simp[l1,l2,xw]) hu (fun j h1 h2=>?_) ?_
  ·have h1':j<vs.length:=by simpa using h1
   have yA:j<ws.length:=by simpa using h2
   refine nW (yz r1 j _ (List.getElem?_eq_getElem h1')) fun x t e1 q1=>?_;refine nW (yz r2 j _ (List.getElem?_eq_getElem yA)) fun y u e2 q2=>?_;have a1:vs.toArray[j]=.str x t:=by simpa using q1
   have a2:ws.toArray[j]=.str y u:=by simpa using q2
   refine az (a1) ?_;refine az (a2) ?_;have g1:xs.getD j ⟨#[]⟩=x:=by rw[List.getD_eq_getElem?_getD,e1];rfl
   have g2:ys.getD j ⟨#[]⟩=y:=by rw[List.getD_eq_getElem?_getD,e2];rfl
   refine az (g1) ?_;refine az (g2) ?_;exact(eqGives_str x y t u).at _ _
  ·have:vs.toArray.size=xs.length:=by simp[l1]
   rw[this,z5 xw];exact h
 ·refine SeqAt.eq_list_lengthsAt hl hb (by simp[l1,l2,xw]) hu ?_;have:decide (xs=ys)=false:=by
   rw[decide_eq_false_iff_not];intro e;exact xw (by rw[e])
  rw[this]at h;exact h
theorem Kg{prog:Program}{w:World}{E:Value->Shared->Prop}{l b:Addr}{vs:List Value}{Q:Value->Shared->Prop}(hl:s.heap.IsList l vs.toArray)(hb:s.heap.IsList b #[])(hu:A.units<cLine)(h:Q (.bool (isNil vs)) s):
  wpAny (model prog w) A (compareOp .Eq (.ref l) (.ref b)) Q E s:=by
 induction vs using List.casesOn with
 |nil=>exact SeqAt.eq_listAt (e:=fun _=>true) hl hb rfl hu (fun j h1 _=>absurd h1 (Nat.not_lt_zero j)) h
 |cons v vs=>exact SeqAt.eq_list_lengthsAt hl hb (by simp) hu h
theorem Ck{prog:Program}{w:World}{E:Value->Shared->Prop}{l b:Addr}{vs:List Value}{Q:Value->Shared->Prop}(hl:s.heap.IsList l vs.toArray)(hb:s.heap.IsList b #[])(hu:A.units<cLine)(h:Q (.bool (!isNil vs)) s):
  wpAny (model prog w) A (compareOp .NotEq (.ref l) (.ref b)) Q E s:=by
 refine bc fun bf=>?_;obtain⟨⟨cls,dd,data,sl⟩,ho,hc,n,hd⟩:=id hl;obtain⟨⟨Uo,O7,data2,O8⟩,xt,O9,n2,hd2⟩:=id hb;refine bf ?_;simp only at hc hd O9 hd2;subst hc hd O9 hd2
 induction vs using List.casesOn with
 |nil=>
  exact richCompare_meets_room (op:=.NotEq) ⟨_,ho,rfl⟩ ⟨_,xt,rfl⟩ PySem.F.slot_list_ne PySem.F.entry_list_ne (PySem.F.args_list_ne_2 _ _) (SeqAt.list_neAt l b #[] #[] n n2 dd O7 sl O8 rfl (fun _=>true))
   ⟨ho,xt,fun j h1 _=>absurd h1 (Nat.not_lt_zero j),show Value.bool _≠Value.notImplemented/\Q (.bool _) s from⟨(fun x=>nomatch x),h⟩⟩ hu
 |cons v vs=>
  exact richCompare_meets_room (op:=.NotEq) ⟨_,ho,rfl⟩ ⟨_,xt,rfl⟩ PySem.F.slot_list_ne PySem.F.entry_list_ne (PySem.F.args_list_ne_2 _ _) (SeqAt.list_ne_lengthsAt l b _ #[] n n2 dd O7 sl O8 (by simp))
   ⟨ho,xt,show Value.bool true≠Value.notImplemented/\Q (.bool true) s from⟨(fun x=>nomatch x),h⟩⟩ hu
theorem Gk(a b:Str):(a.cps.toList==b.cps.toList)=eZ a b:=by
 rw[Bool.eq_iff_iff,beq_iff_eq,bj];constructor
 ·intro h;cases a;cases b;simp only[Str.mk.injEq];exact Array.toList_inj.mp h
 ·intro h;rw[h]
theorem pk{α β:Type}{l:List α}{m:List β}(h:l.length=m.length):isNil l=isNil m:=by
 rcases l with _|_<;>rcases m with _|_<;>first|rfl|rcases h with _|_
noncomputable def oq(x:Str):Value->Bool
 |.str y _=>eZ x y
 |_=>false
theorem Cm{B:Heap}{x:Str}{l:List D}{vs:List Value}{as:List Addr}{b:Bool}(r:ReadsAll B vs l as)(e:y6 x l=some b):vs.any (oq x)=b/\∀y∈vs,∃z t,y=.str z t:=
 lh (motive:=fun vs l=>∀b,y6 x l=some b->vs.any (oq x)=b/\∀y∈vs,∃z t,y=.str z t) (fun b e=>by cases e;exact⟨rfl,fun y hy=>nomatch hy⟩) (fun v vs dd l _ _ r rs ih b e=>by
  induction dd using PyData.casesOn with
  |str y=>
   cases r with
   |str _ t=>
    unfold y6 at e;cases q:eZ x y with
    |true=>
     rw[q]at e;dsimp only at e;split at e
     ·rename_i w hw;rcases e with _|_
      obtain⟨h1,h2⟩:=ih _ hw;refine⟨by simp[List.any_cons,oq,q],fun z hz=>?_⟩;rcases List.mem_cons.mp hz with rfl|hz
      ·exact⟨_,_,rfl⟩
      ·exact h2 z hz
     ·cases e
    |false=>
     rw[q]at e;obtain⟨h1,h2⟩:=ih _ e;refine⟨by simp[List.any_cons,oq,q,h1],fun z hz=>?_⟩;rcases List.mem_cons.mp hz with rfl|hz
     ·exact⟨_,_,rfl⟩
     ·exact h2 z hz
  |_=>rcases e with _|_) r b e
noncomputable def vV(x:Int):Value->Bool
 |.int y _=>decide (x=y)
 |_=>false
theorem Kh{B:Heap}{x:Int}{l:List D}{vs:List Value}{as:List Addr}{b:Bool}(r:ReadsAll B vs l as)(e:Hc x l=some b):vs.any (vV x)=b/\∀y∈vs,∃z t,y=.int z t:=
 lh (motive:=fun vs l=>∀b,Hc x l=some b->vs.any (vV x)=b/\∀y∈vs,∃z t,y=.int z t) (fun b e=>by cases e;exact⟨rfl,fun y hy=>nomatch hy⟩) (fun v vs dd l _ _ r rs ih b e=>by
  induction dd using PyData.casesOn with
  |int y=>
   cases r with
   |int _ t=>
    unfold Hc at e;split at e
    ·rename_i w hw;cases e;obtain⟨h1,h2⟩:=ih _ hw;refine⟨by simp[List.any_cons,vV,h1],fun z hz=>?_⟩;rcases List.mem_cons.mp hz with rfl|hz
     ·exact⟨_,_,rfl⟩
     ·exact h2 z hz
    ·cases e
  |_=>cases e) r b e
theorem HN{prog:Program}{w:World}{E:Value->Shared->Prop}{B:Heap}{x:Str}{t:Tok}{c:Addr}{l:List D}{vs:List Value}{as:List Addr}{b:Bool}{Q:Value->Shared->Prop}(hc:s.heap.IsTuple c vs.toArray)(r:ReadsAll B vs l as)(e:y6 x l=some b)(h:Q (.bool b) s):
  wpAny (model prog w) A (compareOp .In (.str x t) (.ref c)) Q E s:=by
 obtain⟨h1,h2⟩:=Cm r e;refine SeqAt.in_tupleAt (oq x) hc (fun y hy=>?_) (by rw[List.any_toArray,h1];exact h);refine PR (h2 y (by simpa using hy)) fun z u ja=>?_;subst ja;have:oq x (.str z u)=(z==x):=by
  show eZ x z=_;rw[Bool.eq_iff_iff,bj,beq_iff_eq];exact eq_comm
 rw[this];exact(eqGives_str z x u t).at _ _
theorem z6{prog:Program}{w:World}{E:Value->Shared->Prop}{B:Heap}{x:Str}{t:Tok}{c:Addr}{l:List D}{vs:List Value}{as:List Addr}{b:Bool}{Q:Value->Shared->Prop}(hc:s.heap.IsTuple c vs.toArray)(r:ReadsAll B vs l as)(e:y6 x l=some b)(h:Q (.bool (!b)) s):
  wpAny (model prog w) A (compareOp .NotIn (.str x t) (.ref c)) Q E s:=by
 obtain⟨h1,h2⟩:=Cm r e;refine SeqAt.notIn_tupleAt (oq x) hc (fun y hy=>?_) (by rw[List.any_toArray,h1];exact h);refine PR (h2 y (by simpa using hy)) fun z u ja=>?_;subst ja;have:oq x (.str z u)=(z==x):=by
  show eZ x z=_;rw[Bool.eq_iff_iff,bj,beq_iff_eq];exact eq_comm
 refine az (this) ?_;exact(eqGives_str z x u t).at _ _
theorem HO{prog:Program}{w:World}{E:Value->Shared->Prop}{B:Heap}{x:Int}{t:Tok}{c:Addr}{l:List D}{vs:List Value}{as:List Addr}{b:Bool}{Q:Value->Shared->Prop}(hc:s.heap.IsTuple c vs.toArray)(r:ReadsAll B vs l as)(e:Hc x l=some b)(h:Q (.bool b) s):
  wpAny (model prog w) A (compareOp .In (.int x t) (.ref c)) Q E s:=by
 obtain⟨h1,h2⟩:=Kh r e;refine SeqAt.in_tupleAt (vV x) hc (fun y hy=>?_) (by rw[List.any_toArray,h1];exact h);refine PR (h2 y (by simpa using hy)) fun z u ja=>?_;subst ja;have:vV x (.int z u)=(z==x):=by
  show decide (x=z)=_;rw[Bool.eq_iff_iff,decide_eq_true_iff,beq_iff_eq];exact eq_comm
 refine az (this) ?_;exact(MeetsSeq.EqGives.int z x u t).at _ _
theorem pn{x:Str}:∀{l:List (Str×ag)} {gK:List (Str×Value)},gd W g l gK->match dE x l with
  |some m=>∃v,valueAt gK x=some v/\bG W g m v
  |none=>valueAt gK x=none
 |[],[],_=>rfl
 |p::l,q::gK,⟨e,r,rs⟩=>by
  have ih:=pn (x:=x) rs;unfold dE valueAt;refine az (List.find?_cons) ?_;refine az (e) ?_;cases z:eZ p.1 x with
  |true=>
   have:=bj.mp z;simp only[this,decide_true];exact⟨q.2,rfl,r⟩
  |false=>
   have:=iV.mp z;simp only[this,decide_false];exact ih
 |[],_::_,z=>z.elim
 |_::_,[],z=>z.elim
theorem pv{α:Type}{x:Str}:∀{l:List (Str×α)},ym x l=(dE x l).isSome
 |[]=>rfl
 |p::l=>by
  unfold ym dE;cases eZ p.1 x with
  |true=>rfl
  |false=>exact pv (l:=l)
theorem k6(I:Inv W g σ s.heap){i:Nat}{l:List (Str×ag)}(h:σ.nU i=some (.dict l)):∃p gK,aq g.lb i=some (some p)/\g.O p.1=.b i/\Heap.DictOf (strKind W.prog W.w) s.heap p.1 gK/\gd W g l gK:=by
 refine bc fun bf=>?_;obtain⟨p,e,ho,gK,hd,hr⟩:=I.cb i _ (iK.mp h);refine bf ?_;exact⟨p,gK,e,ho,hd,hr⟩
theorem tM(prog:Program)(w:World)(x:Str)(t:Tok):(strKind prog w).is x (.str x t)=true:=strKind_is prog w x t
theorem z7(H:iH W N G)(I:Inv W g σ s.heap){a:Addr}{t:Tag}(h:g.O a=t)(ht:t≠.no):(a==sysModules)=false:=by
 rw[beq_eq_false_iff_ne];intro e;subst e;obtain⟨o,ho⟩:=H.sys;rw[I.lM _ _ (I.fR _ _ ho)]at h;exact ht h.symm
theorem ot{K:Type}[DecidableEq K]{prog:Program}{w:World}{knd:PySem.KeyKind prog w K}{h h':Heap}{a:Addr}{f:K->Option Value}(n:Heap.MapOf knd h a f)(k:∀b o,h.get? b=some o->h'.get? b=some o):Heap.MapOf knd h' a f:=
 let⟨o,es,ep,ho,r⟩:=n;⟨o,es,ep,k _ _ ho,r⟩
set_option tactic.hygienic true in
@[elab_as_elim] theorem Up{motive:ag->ag->Prop}{v w:ag}{σ:St}{K:Bool->Prop}(h:Wx v w σ K)(h1:∀a b,K (eZ a b)->motive (.d (.str a)) (.d (.str b)))(h2:∀a b,K (decide (a=b))->motive (.d (.int a)) (.d (.int b)))
  (h3:K true->motive (.d .none) (.d .none)) (h4:∀a,K false->motive (.d .none) (.d (.str a))) (h5:∀a,K false->motive (.d (.str a)) (.d .none)) (h6:∀a,K false->motive (.d .none) (.d (.int a))) (h7:∀a,K false->motive (.d (.int a)) (.d .none))
  (h8:∀a b,K false->motive (.d (.int a)) (.d (.str b))) (h9:∀a b,K false->motive (.d (.str a)) (.d (.int b))) (QD:∀a,K (isNil a)->motive (.d (.tuple a)) (.d (.tuple []))) (h11:∀a,K (isNil a)->motive (.d (.list a)) (.d (.list [])))
  (WD:∀i j,Wx (.b i) (.b j) σ K->motive (.b i) (.b j)):motive v w:=by
 induction v using ag.casesOn with
 |d x=>
  induction w using ag.casesOn with
  |d y=>
   rcases x with _|_<;>first
   |exact nf h
   |(rcases y with _|_<;>first|exact nf h|exact h1 _ _ h|exact h2 _ _ h|exact h3 h|exact h4 _ h|exact h5 _ h|exact h6 _ h|exact h7 _ h|exact h8 _ _ h|exact h9 _ _ h|(rename_i l;rcases l with _|_<;>first|exact nf h|exact QD _ h|exact h11 _ h))
  |_=>rcases x with _|_<;>exact nf h
 |b i=>rcases w with _|_<;>first|exact nf h|exact WD _ _ h
 |_=>exact nf h
set_option tactic.hygienic true in
@[elab_as_elim] theorem Uq{motive:ag->ag->Prop}{v w:ag}{σ:St}{K:Bool->Prop}(h:Wy v w σ K)(h1:∀a b,K (!eZ a b)->motive (.d (.str a)) (.d (.str b)))(h2:∀a,K true->motive (.d .none) (.d (.str a)))
  (h3:∀a b,K (!decide (a=b))->motive (.d (.int a)) (.d (.int b))) (h4:∀a,K (!isNil a)->motive (.d (.list a)) (.d (.list []))) (h5:∀i,Wy (.b i) (.d (.list [])) σ K->motive (.b i) (.d (.list []))):motive v w:=by
 induction v using ag.casesOn with
 |d x=>
  induction w using ag.casesOn with
  |d y=>
   rcases x with _|_<;>first
   |exact nf h
   |(rcases y with _|_<;>first|exact nf h|exact h1 _ _ h|exact h2 _ h|exact h3 _ _ h|(rename_i l;rcases l with _|_<;>first|exact nf h|exact h4 _ h))
  |_=>rcases x with _|_<;>exact nf h
 |b i=>
  induction w using ag.casesOn with
  |d y=>rcases y with _|_<;>first|exact nf h|(rename_i l;rcases l with _|_<;>first|exact nf h|exact h5 _ h)
  |_=>exact nf h
 |_=>exact nf h
theorem Ki(H:iH W N G)(a:iu d n A)(I:Inv W g σ s.heap)(C:aS W g env ê s.heap){op:CO}{o:CmpOp}{x y:ag}{v w:Value}{K:Bool->Prop}(ho:Ql op o=true)(rx:bG W g x v)(ry:bG W g y w)(h:MN G.tab op x y σ K):
  wpAny (model W.prog W.w) A (compareOp o v w) (aR W env ê g σ s fun m aF=>aF=σ/\∃b,m=.d (.bool b)/\K b) NE s:=by
 have same:∀tk,dO W env ê g σ s g σ {s with toks:=tk}:=fun tk=>dO.ke I C (fun _ _ e=>e) rfl rfl;have out:∀{b:Bool} {tk:Nat},K b->aR W env ê g σ s (fun m aF=>aF=σ/\∃b,m=.d (.bool b)/\K b) (.bool b) {s with toks:=tk}:=fun hk=>outD ⟨rfl,_,rfl,hk⟩ (rz _) (same _);have hu:A.units<cLine:=a.cl (k:=0) (by omega);cases MU ho;clear ho
 induction op using CO.casesOn with
 |eq=>
  have h:Wx x y σ K:=h;refine bc fun hn=>?_;revert rx ry;refine Up h ?_ ?_ ?_ ?_ ?_ ?_ ?_ ?_ ?_ ?_ ?_ ?_
  ·intro _ _ h rx ry;refine hn ?_;refine bx rx fun t=>?_;refine bx ry fun u=>?_;exact PySem.P.eq_str (by rw[Gk];exact out h)
  ·intro _ _ h rx ry;refine hn ?_;refine aK rx fun t=>?_;refine aK ry fun u=>?_;exact wpAny_eq_int (by rw[show(_==_)=decide (_=_)from rfl];exact out h)
  ·intro h rx ry;refine hn ?_;refine dQ rx ?_;refine dQ ry ?_;exact EqNone.eq_none_none (out h)
  ·intro _ h rx ry;refine hn ?_;refine dQ rx ?_;refine bx ry fun u=>?_;exact EqNone.eq_none_str (out h)
  ·intro _ h rx ry;refine hn ?_;refine dQ ry ?_;refine bx rx fun u=>?_;exact EqNone.eq_str_none (out h)
  ·intro _ h rx ry;refine hn ?_;refine dQ rx ?_;refine aK ry fun u=>?_;exact EqNone.eq_none_int (out h)
  ·intro _ h rx ry;refine hn ?_;refine dQ ry ?_;refine aK rx fun u=>?_;exact EqNone.eq_int_none (out h)
  ·intro _ _ h rx ry;refine hn ?_;refine aK rx fun t=>?_;refine bx ry fun u=>?_;exact EqMixed.eq_int_str (out h)
  ·intro _ _ h rx ry;refine hn ?_;refine bx rx fun t=>?_;refine aK ry fun u=>?_;exact EqMixed.eq_str_int (out h)
  ·intro _ h rx ry;refine hn ?_;refine du rx fun p vs as hp r1=>?_;refine du ry fun q ws bs hq r2=>?_;rcases r2 with _|_;refine SeqAt.eq_tupleAt (e:=fun _=>true) (cC I.gM hp) (cC I.gM hq) hu (fun j _ h1=>absurd h1 (Nat.not_lt_zero j)) ?_;rw[<-pk (readsAll_len r1)]at h;rcases vs with _|_<;>simpa [isNil]using out h
  ·intro _ h rx ry;refine hn ?_;refine cG rx fun p vs as hp r1=>?_;refine cG ry fun q ws bs hq r2=>?_;rcases r2 with _|_;exact Kg (bZ I.gM hp) (bZ I.gM hq) hu (by rw[pk (readsAll_len r1)];exact out h)
  ·intro i j h rx ry;refine hn ?_;refine qK h fun c r hr h=>?_;revert hr;refine gW (motive:=fun c=>σ.nU i=some (.list c r)->_) h fun h hr=>?_;refine qK h fun c' t ht h=>?_;revert ht;refine gW (motive:=fun c'=>σ.nU j=some (.list c' t)->_) h fun h ht=>?_
   ·refine PS (h) fun xs ys ja nR hk=>?_;subst ja;subst nR;refine lW (ie I hr) fun p ws k e1 _ hg WE=>?_;refine lW (ie I ht) fun q us m e2 _ WG Ur=>?_;refine bR (rx) fun p' z1 ja=>?_;subst ja;refine bR (ry) fun q' z2 ja=>?_;subst ja;obtain rfl:=Option.some.inj (Option.some.inj (e1.symm.trans z1));obtain rfl:=Option.some.inj (Option.some.inj (e2.symm.trans z2));rw[jJ]at WE Ur;obtain⟨as,ra⟩:=gP WE;obtain⟨bs,rb⟩:=gP Ur;rw[<-List.map_reverse]at ra rb;refine HM (fO hg) (fO WG) ra rb hu ?_;have:decide (xs.reverse=ys.reverse)=decide (xs=ys):=by
     rw[decide_eq_decide];exact List.reverse_inj
    rw[this];exact out hk
 |ne=>
  have h:Wy x y σ K:=h;refine bc fun hn=>?_;revert rx ry;refine Uq h ?_ ?_ ?_ ?_ ?_
  ·intro _ _ h rx ry;refine hn ?_;refine bx rx fun t=>?_;refine bx ry fun u=>?_;refine PySem.P.ne_str ?_;have:∀(a b:Str),(a.cps.toList != b.cps.toList)= !eZ a b:=fun a b=>by rw[<-Gk];rfl
   rw[this];exact out h
  ·intro _ h rx ry;refine hn ?_;refine dQ rx ?_;refine bx ry fun u=>?_;exact EqNone.ne_none_str (out h)
  ·intro _ _ h rx ry;refine hn ?_;refine aK rx fun t=>?_;refine aK ry fun u=>?_;refine PySem.P.ne_int ?_;have:∀(a b:Int),(a != b)= !decide (a=b):=fun _ _=>rfl;rw[this];exact out h
  ·intro _ h rx ry;refine hn ?_;refine cG rx fun p vs as hp r1=>?_;refine cG ry fun q ws bs hq r2=>?_;rcases r2 with _|_;exact Ck (bZ I.gM hp) (bZ I.gM hq) hu (by rw[pk (readsAll_len r1)];exact out h)
  ·intro i h rx ry;refine hn ?_;refine qK h fun c r hr h=>?_
   ·refine lW (ie I hr) fun p ws k e1 _ hg WE=>?_;refine bR (rx) fun p' z1 ja=>?_;subst ja;obtain rfl:=Option.some.inj (Option.some.inj (e1.symm.trans z1));refine cG ry fun q us bs hq r2=>?_;rcases r2 with _|_;refine Ck (fO hg) (bZ I.gM hq) hu ?_;have:isNil ws=(isNil c&&isNil r):=by
     refine az (pk (d6 WE)) ?_;have e:=ig c r;revert e;rcases c with _|_<;>rcases r with _|_<;>cases hi:items _ _<;>simp[isNil]
    rw[this];exact out h
 |lt=>
  refine bc fun hn=>?_;revert rx ry;refine cN h fun x h=>t9 h fun a h=>cN h fun y h=>t9 h fun b h rx ry=>hn ?_;refine aK rx fun t=>?_;refine aK ry fun u=>?_;exact wpAny_lt_int (out h)
 |gt=>
  refine bc fun hn=>?_;revert rx ry;refine cN h fun x h=>t9 h fun a h=>cN h fun y h=>t9 h fun b h rx ry=>hn ?_;refine aK rx fun t=>?_;refine aK ry fun u=>?_;exact gt_int (out h)
 |is=>
  refine bc fun hn=>?_;revert rx ry;refine cN h fun y h=>P4 h fun h=>cN h fun x h rx ry=>hn ?_;refine dQ ry ?_;obtain⟨as,r⟩:=rx;refine wpAny_is_plain (by rcases r with _|_<;>rfl) ?_;have:(v==Value.none)=isNone x:=by rcases r with _|_<;>simp[isNone]
  rw[this];exact out h
 |nP=>
  refine bc fun hn=>?_;revert rx ry;refine cN h fun y h=>P4 h fun h=>cN h fun x h rx ry=>hn ?_;refine dQ ry ?_;obtain⟨as,r⟩:=rx;refine wpAny_isNot_plain (by rcases r with _|_<;>rfl) ?_;have:(v==Value.none)=isNone x:=by rcases r with _|_<;>simp[isNone]
  rw[this];exact out h
 |isin=>
  refine bc fun hn=>?_;revert rx ry;have h:OS G.tab x y σ K:=h
  induction y using ag.casesOn with
  |d y=>
   refine Jt h fun l h=>cN h fun x h=>?_
   induction x using PyData.casesOn with
   |str s=>
    refine fun rx ry=>hn ?_;refine lL h fun b e h=>?_;refine bx rx fun t=>?_;refine du ry fun q ws bs hq r2=>?_;exact HN (cC I.gM hq) r2 e (out h)
   |int s=>
    refine fun rx ry=>hn ?_;refine lL h fun b e h=>?_;refine aK rx fun t=>?_;refine du ry fun q ws bs hq r2=>?_;exact HO (cC I.gM hq) r2 e (out h)
   |_=>exact nf h
  |b i=>
   refine cN h fun x h=>Js h fun xx h=>Ha h fun l hl h rx ry=>hn ?_;refine bx rx fun t=>?_;refine DI (k6 I hl) fun p gK e1 ho hd hr=>?_;refine bR (ry) fun p' z1 ja=>?_;subst ja;obtain rfl:=Option.some.inj (Option.some.inj (e1.symm.trans z1));refine wpAny_in_of (tM _ _ _ _) (z7 H I ho (fun z=>nomatch z)) hd.mapOf ?_;have:=pn (x:=xx) hr;rw[pv]at h;cases q:dE xx l with
   |none=>rw[q]at this h;rw[this];exact out h
   |some m=>rw[q]at this h;obtain⟨u,e,_⟩:=this;rw[e];exact out h
  |g=>
   refine cN h fun x h=>Js h fun xx h rx ry=>hn ?_;refine bx rx fun t=>?_;rcases ry with _|_;refine i8 (H.Nf) fun f hm hs hf=>?_;refine wpAny_in_of (tM _ _ _ _) hs (ot hm fun b o e=>I.gM _ _ (I.fR _ _ e)) ?_;have:=hf xx;rw[pv]at h;cases q:dE xx G.tab with
   |none=>rw[q]at this h;rw[this];exact out h
   |some m=>rw[q]at this h;obtain⟨u,e,_⟩:=this;rw[e];exact out h
  |_=>exact nf h
 |yl=>
  refine bc fun hn=>?_;revert rx ry;have h:Ts G.tab x y K:=h
  induction y using ag.casesOn with
  |d y=>
   refine Jt h fun l h=>cN h fun x h=>Js h fun s h rx ry=>hn ?_;refine lL h fun b e h=>?_;refine bx rx fun t=>?_;refine du ry fun q ws bs hq r2=>?_;exact z6 (cC I.gM hq) r2 e (out h)
  |g=>
   refine cN h fun x h=>Js h fun xx h rx ry=>hn ?_;refine bx rx fun t=>?_;rcases ry with _|_;refine i8 (H.Nf) fun f hm hs hf=>?_;refine wpAny_notIn_of (tM _ _ _ _) hs (ot hm fun b o e=>I.gM _ _ (I.fR _ _ e)) ?_;have:=hf xx;rw[pv]at h;cases q:dE xx G.tab with
   |none=>rw[q]at this h;rw[this];exact out h
   |some m=>rw[q]at this h;obtain⟨u,e,_⟩:=this;rw[e];exact out h
  |_=>exact nf h
end
section
variable{W:Wd}{N:Nm}{G:Own}{A:Around}{s:Shared}{g:Gh}{σ:St}{env:Env}{ê:ak}{d n:Nat}
theorem jn{k:Nat}(h:k<=ah):(k:Int)<2 ^ 63:=by
 have:k<=1000000:=h;omega
theorem Kj{k len:Nat}(h:k<len):seqIndex? (k:Int) len=some k:=by
 unfold seqIndex?;have h1:¬((k:Int)<0):=by exact Int.not_lt.mpr (xr (DK (k)))
 simp[h1,h]
theorem ou{h:Heap}{vs:List Value}{xs:List D}{as:List Addr}(r:ReadsAll h vs xs as){j:Nat}{x:D}(e:aq xs j=some x):∃v,vs[j]?=some v/\dP h x v:=
 lh (motive:=fun vs xs=>∀j x,aq xs j=some x->∃v,vs[j]?=some v/\dP h x v) (fun _ _ e=>Bh e) (fun _ _ _ _ _ _ a _ ih j x e=>by
  induction j using Nat.casesAuxOn with
  |zero=>rcases e with _|_;exact⟨_,rfl,_,a⟩
  |succ j=>
   refine bR (ih j x e) fun v h1 h2=>?_;exact⟨v,by simpa using h1,h2⟩) r j x e
theorem vW:∀{l:List ag} {ws:List Value},cc W g l ws->∀{j:Nat} {m:ag},aq l j=some m->∃v,ws[j]?=some v/\bG W g m v
 |_::_,_::_,⟨a,r⟩,0,m,e=>by rcases e with _|_;exact⟨_,rfl,a⟩
 |_::_,_::_,⟨a,r⟩,j+1,m,e=>by
  refine bR (vW r (j:=j) e) fun v h1 h2=>?_;exact⟨v,by simpa using h1,h2⟩
 |[],[],_,_,_,e=>by cases e
 |[],_::_,z,_,_,_=>z.elim
 |_::_,[],z,_,_,_=>z.elim
theorem mJ {prog:Program} {w:World} {E:Value->Shared->Prop} {value slice:Expr} {o i:Value} {T id:String} {Q:Value->Shared->Prop} (ht:s.TypeIs o T) (hl:typeLookup (.type T) (Str.ofString "__getitem__")=pure (some (.builtin id)))
  (hs:n5 slice=true) (h:wpAny (model prog w) A (getItem o i) Q E s):wpAny (model prog w) A (subscriptTail value slice o i) Q E s:=
 tail_any (ops:=[o,i]) ht hl h (by rcases slice with _|_<;>first|rfl|(rcases hs with _|_;done))
theorem qt(I:Inv W g σ s.heap){i:Nat}{c:List ag}{r:List D}(h:aq σ.temps i=some (.list c r)):∃a ws k,aq g.lt i=some a/\g.O a=.t i/\s.heap.get? a=some (eu ws k)/\cc W g (items c r) ws:=by
 refine i8 (I.ct i _ h) fun a e Us _=>?_;refine bc fun bf=>?_;obtain⟨ho,ws,k,hg,hr⟩:=Us;refine bf ?_;exact⟨a,ws,k,e,ho,hg,hr⟩
theorem EO{c:List ag}{r:List D}{m:ag}(h:lastOf c r=some m):∃l,items c r=l++[m]:=by
 unfold lastOf at h
 induction c using List.casesOn with
 |cons x c=>cases h;exact⟨(c++r.map ag.d).reverse,by unfold items;rw[List.cons_append,List.reverse_cons]⟩
 |nil=>
  induction r using List.casesOn with
  |nil=>cases h
  |cons y r=>cases h;exact⟨(r.map ag.d).reverse,by unfold items;rw[List.nil_append,List.map_cons,List.reverse_cons]⟩
theorem vX{l:List ag}{m:ag}:∀{ws:List Value},cc W g (l++[m]) ws->∃us v,ws=us++[v]/\bG W g m v:=by
 induction l with
 |nil=>intro ws h;induction ws using List.casesOn with
  |nil=>exact h.elim
  |cons w ws=>induction ws using List.casesOn with
   |nil=>exact⟨[],w,rfl,h.1⟩
   |cons _ _=>exact h.2.elim
 |cons x l ih=>intro ws h;induction ws using List.casesOn with
  |nil=>exact h.elim
  |cons w ws=>
   refine nW (ih h.2) fun us v e r=>?_;exact⟨w::us,v,by rw[e];rfl,r⟩
set_option tactic.hygienic true in
theorem yB{prog:Program}{w:World}{E:Value->Shared->Prop}{a:Addr}{ws:List Value}{k':Nat}{c:List ag}{r:List D}{k:Int}{t:Tok}{K:ag->Prop}{Q:Value->Shared->Prop}{slice value:Expr}(hs:n5 slice=true)
  (hg:s.heap.get? a=some (eu ws k')) (hr:cc W g (items c r) ws)
  (h:match k with
   |.ofNat m=>match aq (items c r) m with|some x=>small m (K x)|none=>False
   |.negSucc 0=>match lastOf c r with|some x=>K x|none=>False
   |.negSucc _=>False) (q:∀m v,K m->bG W g m v->Q v s):wpAny (model prog w) A (subscriptTail value slice (.ref a) (.int k t)) Q E s:=by
 have hl:=fO hg;refine mJ hl.typeIs PySem.slot_list_getitem.lookup hs ?_;have hlen:=d6 hr;rw[ig]at hlen;split at h
 ·rename_i m;split at h
  ·rename_i x e;refine bR (vW hr e) fun v h1 h2=>?_;have qu:=dv h;have hb:=qu.1;have h:=qu.2;clear qu;exact wpAny_getItem_list hl (Int.natCast_nonneg m) (jn hb) (by simpa using h1) (q _ _ h h2)
  ·exact h.elim
 ·split at h
  ·rename_i x e;obtain⟨l,e'⟩:=EO e;rw[e']at hr;refine nW (vX hr) fun us v ja h2=>?_;subst ja;refine wpAny_getItem_list_neg hl (by decide) ?_ (by decide) ?_ (q _ _ h h2)
   ·simp;exact xr (DK (us.length))
   ·have:((Int.negSucc 0)+((us++[v]).toArray.size:Int)).toNat=us.length:=by
     simp;omega
    rw[this];simp
  ·exact h.elim
 ·exact h.elim
theorem HP{l:List (Str×ag)}{gK:List (Str×Value)}{x:Str}{m:ag}(h:gd W g l gK)(e:dE x l=some m):∃v,valueAt gK x=some v/\bG W g m v:=by
 have:=pn (x:=x) h;rw[e]at this;exact this
set_option tactic.hygienic true in
@[elab_as_elim] theorem QE{motive:ag->ag->Prop}{tab:List (Str×D)}{o i:ag}{σ:St}{K:ag->Prop}(h:uX tab o i σ K)(h1:∀x,uX tab .g (.d (.str x)) σ K->motive .g (.d (.str x)))
  (h2:∀l k,uX tab (.d (.tuple l)) (.d (.int k)) σ K->motive (.d (.tuple l)) (.d (.int k))) (h3:∀l k,uX tab (.d (.list l)) (.d (.int k)) σ K->motive (.d (.list l)) (.d (.int k))) (h4:∀l k,uX tab (.d (.str l)) (.d (.int k)) σ K->motive (.d (.str l)) (.d (.int k)))
  (h5:∀l k,uX tab (.b l) (.d (.int k)) σ K->motive (.b l) (.d (.int k))) (h6:∀l k,uX tab (.t l) (.d (.int k)) σ K->motive (.t l) (.d (.int k))) (h7:∀l k,uX tab (.b l) (.d (.str k)) σ K->motive (.b l) (.d (.str k))):motive o i:=by
 induction i using ag.casesOn with
 |d y=>
  induction o using ag.casesOn with
  |g=>rcases y with _|_<;>first|exact nf h|exact h1 _ h
  |d x=>rcases x with _|_<;>first|exact nf h|(rcases y with _|_<;>first|exact nf h|exact h2 _ _ h|exact h3 _ _ h|exact h4 _ _ h)
  |b n=>rcases y with _|_<;>first|exact nf h|exact h5 _ _ h|exact h7 _ _ h
  |t n=>rcases y with _|_<;>first|exact nf h|exact h6 _ _ h
  |_=>exact nf h
 |_=>rcases o with _|_<;>first|exact nf h|(rename_i x;rcases x with _|_<;>exact nf h)
set_option tactic.hygienic true in
theorem QF(H:iH W N G)(a:iu d n A)(I:Inv W g σ s.heap)(C:aS W g env ê s.heap){value slice:Expr}{x y:ag}{v w:Value}{K:ag->Prop}(hs:n5 slice=true)(rx:bG W g x v)(ry:bG W g y w)(h:uX G.tab x y σ K):
  wpAny (model W.prog W.w) A (subscriptTail value slice v w) (aR W env ê g σ s fun m aF=>aF=σ/\K m) NE s:=by
 have same:∀tk,dO W env ê g σ s g σ {s with toks:=tk}:=fun tk=>dO.ke I C (fun _ _ e=>e) rfl rfl;have out:∀{m:ag} {v:Value} {tk:Nat},K m->bG W g m v->aR W env ê g σ s (fun m aF=>aF=σ/\K m) v {s with toks:=tk}:=fun hk r=>⟨_,g,σ,⟨rfl,hk⟩,r,same _⟩;revert rx ry;refine QE h ?_ ?_ ?_ ?_ ?_ ?_ ?_
 ·intro xx h rx ry
  (conv at h=>whnf)
  cases rx;refine bx ry fun t=>?_;refine i8 (H.Nf) fun f hm hsy hf=>?_;have Hf:=ot hm fun b o e=>I.gM _ _ (I.fR _ _ e);have:=hf xx;split at h
  ·rename_i dd e;rw[e]at this;refine bR (this) fun u e' r=>?_;exact mJ Hf.typeIs PySem.slot_dict_getitem.lookup hs (wpAny_getItem_of (tM _ _ _ _) Hf e' (out h (r.mono I.fR)))
  ·exact h.elim
 ·intro l k h rx ry
  (conv at h=>whnf)
  refine du rx fun p vs as hp r1=>?_;refine aK ry fun t=>?_;split at h
  ·rename_i xx e
   induction k using Int.casesOn with
   |negSucc _=>cases e
   |ofNat k=>
    have e:aq l k=some xx:=e;refine bR (ou r1 e) fun u h1 h2=>?_;have pY:k<vs.length:=(List.getElem?_eq_some_iff.mp h1).1;have qu:=dv h;have hb:=qu.1;have h:=qu.2;clear qu;have rA:=cC I.gM hp;refine mJ rA.typeIs slot_tuple_getitem.lookup hs (getItem_tuple rA ?_ (jn hb) (Kj (by simpa using pY)) (by simpa using h1) (out h h2));exact Int.le_trans (by decide) (Int.natCast_nonneg k)
  ·exact h.elim
 ·intro l k h rx ry
  (conv at h=>whnf)
  refine cG rx fun p vs as hp r1=>?_;refine aK ry fun t=>?_;split at h
  ·rename_i xx e
   induction k using Int.casesOn with
   |negSucc _=>cases e
   |ofNat k=>
    have e:aq l k=some xx:=e;refine bR (ou r1 e) fun u h1 h2=>?_;have qu:=dv h;have hb:=qu.1;have h:=qu.2;clear qu;have rA:=bZ I.gM hp;exact mJ rA.typeIs PySem.slot_list_getitem.lookup hs (wpAny_getItem_list rA (Int.natCast_nonneg k) (jn hb) (by simpa using h1) (out h h2))
  ·exact h.elim
 ·intro xx k h rx ry
  (conv at h=>whnf)
  refine bx rx fun t=>?_;refine aK ry fun u=>?_;split at h
  ·rename_i k;split at h
   ·rename_i c e;have qu:=dv h;have hb:=qu.1;have h:=qu.2;clear qu;have pY:=mu e;rw[u4]at e;have Bq:=jn hb;refine mJ (T:= "str") rfl F.slot_str_getitem.lookup hs (PySem.P.getItem_str (i:=Int.ofNat k) (c:=c) ?_ ?_ (out h (nz _ _)))
    ·have h1:¬((k:Int)< -2 ^ 63):=by have:=Int.natCast_nonneg k;omega
     have h2:¬((k:Int)>=2 ^ 63):=by omega
     show(decide ((k:Int)< -2 ^ 63)||decide ((k:Int)>=2 ^ 63))=false;rw[decide_eq_false h1,decide_eq_false h2];rfl
    ·refine az (show Int.ofNat k=(k:Int)from rfl) ?_;refine az (Kj (show k<xx.length from pY)) ?_
     simpa using e
   ·exact h.elim
  ·exact h.elim
 ·intro i k h rx ry
  (conv at h=>whnf)
  refine aK ry fun u=>?_;split at h
  ·rename_i c r e;refine lW (ie I e) fun p ws k' e1 _ hg hr=>?_;refine bR (rx) fun p' e2 ja=>?_;subst ja;obtain rfl:=Option.some.inj (Option.some.inj (e1.symm.trans e2));exact yB hs hg hr h fun m v hk r=>out hk r
  ·exact h.elim
 ·intro i k h rx ry
  (conv at h=>whnf)
  refine aK ry fun u=>?_;split at h
  ·rename_i c r e;refine lW (qt I e) fun p ws k' e1 _ hg hr=>?_;refine bR (rx) fun p' e2 ja=>?_;subst ja;obtain rfl:=Option.some.inj (e1.symm.trans e2);exact yB hs hg hr h fun m v hk r=>out hk r
  ·exact h.elim
 ·intro i xx h rx ry
  (conv at h=>whnf)
  refine bx ry fun u=>?_;split at h
  ·rename_i l e;refine DI (k6 I e) fun p gK e1 _ hd hr=>?_;refine bR (rx) fun p' e2 ja=>?_;subst ja;obtain rfl:=Option.some.inj (Option.some.inj (e1.symm.trans e2));split at h
   ·rename_i m em;refine bR (HP hr em) fun v e' r=>?_;exact mJ hd.mapOf.typeIs PySem.slot_dict_getitem.lookup hs (wpAny_getItem_of (tM _ _ _ _) hd.mapOf e' (out h r))
   ·exact h.elim
  ·exact h.elim
end
section
variable{W:Wd}{N:Nm}{G:Own}{A:Around}{s:Shared}{g:Gh}{σ:St}{env:Env}{ê:ak}{d n:Nat}
theorem vY(x y:Str)(t:Tok):(Value.str x t).isStr y=eZ x y:=by
 rw[Bool.eq_iff_iff,bj];show(x==y)=true↔x=y;rw[beq_iff_eq]
theorem rB{a:Str}:∀{l:List (Str×ag)} {es:List DictEntry},nQ W g l es->(match dE a l with
  |some m=>∃v,getL a es=some (some v)/\bG W g m v
  |none=>getL a es=some none)/\es.any (·.refKey)=false
 |[],[],_=>⟨rfl,rfl⟩
 |p::l,e::es,⟨⟨t,hk⟩,r,rs⟩=>by
  obtain⟨ih,na⟩:=rB (a:=a) rs;have hr:e.refKey=false:=by unfold DictEntry.refKey;rw[hk]
  refine⟨?_,by rw[List.any_cons,hr,na];rfl⟩;unfold getL at ih⊢;rw[List.find?_cons,hk,vY];unfold dE;cases z:eZ p.1 a with
  |true=>exact⟨_,rfl,r⟩
  |false=>
   simp only;refine az (List.any_cons) ?_;refine az (hr) ?_;exact ih
 |[],_::_,z=>z.elim
 |_::_,[],z=>z.elim
theorem Kk{a:Str}{m:ag}{v:Value}(hv:bG W g m v){Kl:Int}{t:Tok}:∀{l:List (Str×ag)} {es:List DictEntry},nQ W g l es->nQ W g (i9 a m l) (putL a Kl (.str a t) v es):=by
 intro l0
 induction l0 with
 |nil=>
  intro l1;rcases l1 with _|⟨y0,nK⟩
  ·intro _;exact⟨⟨_,rfl⟩,hv,trivial⟩
  ·intro z;exact z.elim
 |cons p l ih=>
  intro l1;rcases l1 with _|⟨e,es⟩
  ·intro z;exact z.elim
  ·rintro ⟨⟨t,hk⟩,r,rs⟩
   unfold putL i9;rw[hk,vY];cases z:eZ p.1 a with
   |true=>exact⟨⟨t,rfl⟩,hv,rs⟩
   |false=>exact⟨⟨t,hk⟩,r,ih rs⟩
theorem Km:∀{l:List (Str×ag)} {es:List DictEntry},nQ W g l es->es.length=l.length:=by
 intro l0
 induction l0 with
 |nil=>
  intro l1;rcases l1 with _|⟨y0,nK⟩
  ·intro _;exact rfl
  ·intro z;exact z.elim
 |cons x0 Ji ih=>
  intro l1;rcases l1 with _|⟨y0,nK⟩
  ·intro z;exact z.elim
  ·rintro ⟨_,_,r⟩
   exact congrArg (·+1) (ih r)
theorem Cn{a:Str}{Kl:Int}{k v:Value}:∀{es:List DictEntry},(putL a Kl k v es).length<=es.length+1
 |[]=>Nat.le_refl _
 |e::es=>by
  unfold putL;split
  ·simp
  ·have:=Cn (a:=a) (Kl:=Kl) (k:=k) (v:=v) (es:=es);simp;omega
theorem QG:∀{l:List (Str×D)} {es:List DictEntry},Bo g.B l es->nQ W g (l.map fun p=>(p.1,ag.d p.2)) es:=by
 intro l0
 induction l0 with
 |nil=>
  intro l1;rcases l1 with _|⟨y0,nK⟩
  ·intro _;exact trivial
  ·intro h;exact h.elim
 |cons p l ih=>
  intro l1;rcases l1 with _|⟨e,es⟩
  ·intro h;exact h.elim
  ·rintro ⟨a,b,c⟩
   exact⟨a,b,ih c⟩
theorem Co{a:Str}:∀{l:List (Str×D)},dE a (l.map fun p=>(p.1,ag.d p.2))=(dE a l).map ag.d
 |[]=>rfl
 |p::l=>by
  rw[List.map_cons];unfold dE;cases z:eZ p.1 a with
  |true=>rfl
  |false=>exact Co
theorem vZ{m:ag}{v:Value}(r:bG W g m v):handedIn v=true:=by
 induction m using ag.casesOn with
 |d x=>obtain⟨as,r⟩:=r;rcases r with _|_<;>rfl
 |fn f=>rcases r with _|_;rfl
 |ob k l=>obtain⟨a,dx,es,n,rfl,_⟩:=r;rfl
 |b i=>obtain⟨p,_,rfl⟩:=r;rfl
 |t i=>obtain⟨p,_,rfl⟩:=r;rfl
 |g=>rcases r with _|_;rfl
theorem sX{a:Str}{m:ag}(hm:j9 m=true):∀{l:List (Str×ag)},kG l=true->kG (i9 a m l)=true:=by
 intro l0
 induction l0 with
 |nil=>
  intro _;show(j9 m&&true)=true;rw[hm];rfl
 |cons p l ih=>
  intro h;have h:(j9 p.2&&kG l)=true:=h;rw[Bool.and_eq_true]at h;unfold i9;split
  ·show(j9 m&&kG l)=true;rw[hm,h.2];rfl
  ·show(j9 p.2&&kG (i9 a m l))=true;rw[h.1,ih h.2];rfl
theorem z8(H:iH W N G)(I:Inv W g σ s.heap):W.K.In s.heap:=fun a o e=>I.gM _ _ (I.fR _ _ (H.Nd a o e))
theorem Gl(H:iH W N G)(I:Inv W g σ s.heap){x dx:Addr}{k:Nat}{es:List DictEntry}{m:Nat}{a:Str}{v:Value}{Q:Value->Shared->Prop}{E:Value->Shared->Prop}{expr:Bool}(ha:ua a N.attrs=true)(h1:s.heap.get? x=some (instObj (W.ca k) dx))(h2:s.heap.get? dx=some (dictOf es m))(hl:getL a es=some (some v))(hv:handedIn v=true)
  (q:Q v {s with toks:=s.toks+1}):wpAny (model W.prog W.w) A (getAttr (.ref x) a expr) Q E s:=
 get_value (z8 H I) (od:=some (dictOf es m)) ⟨h1,rfl,rfl,h2⟩ (H.cga k) (findObj_own (H.Yq k) (H.Yp k a ha) rfl hl) hv q
theorem Gm(H:iH W N G)(I:Inv W g σ s.heap)(C:aS W g env ê s.heap){x:ag}{a:Str}{v:Value}{K:ag->Prop}{expr:Bool}(ha:ua a N.attrs=true)(rx:bG W g x v)(h:Bj x a σ K):
  wpAny (model W.prog W.w) A (getAttr v a expr) (aR W env ê g σ s fun m aF=>aF=σ/\K m) NE s:=by
 have same:∀tk,dO W env ê g σ s g σ {s with toks:=tk}:=fun tk=>dO.ke I C (fun _ _ e=>e) rfl rfl;refine bc fun hn=>?_;revert rx
 induction x using ag.casesOn with
 |b i=>
  refine Tr h fun k l e h rx=>hn ?_;refine bc fun bf=>?_;obtain⟨p,e1,_,_,_,h1,es,m,h2,hf⟩:=I.cb i _ (iK.mp e);refine bf ?_;refine bR (rx) fun p' e2 ja=>?_;subst ja;obtain rfl:=Option.some.inj (Option.some.inj (e1.symm.trans e2));have:=(rB (a:=a) hf).1;refine lL h fun w ew h=>?_;rw[ew]at this;refine bR (this) fun u hl r=>?_;exact Gl H I ha h1 h2 hl (vZ r) ⟨w,g,σ,⟨rfl,h⟩,r,same _⟩
 |ob k l=>
  refine fun rx=>hn ?_;refine Jq (rx) fun p dx es m Yr h1 h2 hf=>?_;subst Yr;have:=(rB (a:=a) (QG (W:=W) hf)).1;rw[Co]at this;refine lL h fun w ew h=>?_;rw[ew]at this;refine bR (this) fun u hl r=>?_;exact Gl H I ha (I.gM _ _ h1) (I.gM _ _ h2) hl (vZ r) ⟨.d w,g,σ,⟨rfl,h⟩,r,same _⟩
 |_=>exact nf h
set_option tactic.hygienic true in
theorem Ng(H:iH W N G)(I:Inv W g σ s.heap){x dx:Addr}{k:Nat}{es:List DictEntry}{m:Nat}{a:Str}{v:Value}{Q:Unit->Shared->Prop}{E:Value->Shared->Prop}(ha:ua a N.attrs=true)(h1:s.heap.get? x=some (instObj (W.ca k) dx))(h2:s.heap.get? dx=some (dictOf es m))(hl:(getL a es).isSome=true)(hz:es.length<=900)
  (q:∀h' tk Kl t,(∀b o,b≠dx->s.heap.get? b=some o->h'.get? b=some o)->h'.get? dx=some (dictOf (putL a Kl (.str a t) v es) (putN a es m))->Q () {s with heap:=h',toks:=tk}):wpAny (model W.prog W.w) A (setAttr (.ref x) a v) Q E s:=by
 have X:=z8 H I;have II:InstAt s.heap x (instObj (W.ca k) dx) (W.ca k) (some (dictOf es m)):=⟨h1,rfl,rfl,h2⟩;have ht:takerIn W.K (W.ca k) a=some none:=by unfold takerIn;rw[H.Yp k a ha];rfl
 refine set_plain X II (H.csa k) (osa_open (s:={s with toks:=s.toks+1}) X II (H.cpl k) ht fun b=>?_);refine bR (any_some (H.Yq k)) fun cd hc Kn=>?_;obtain⟨h,gg,dd,tt,os⟩:=s;have X:W.K.In h:=X;refine wpAny_bind (wpAny_pure (wpAny_bind (wpAny_bind (wpAny_loadPart h1 (wpAny_bind ((looks_clsIn X hc).here ?_))))));refine az (Kn) ?_;refine wpAny_pure (a:=some dx) (wpAny_bind (wpAny_pure (wpAny_bind ?_)));unfold nsSet;refine wpAny_bind (wpAny_bind (wpAny_askSetting (wpAny_pure (wpAny_bind (wpAny_mkText (wpAny_bind (wpAny_loadPart h2 ?_)))))));dsimp only;unfold getL at hl;have c:(!es.toArray.any (·.key.isStr a)&&es.toArray.any (·.refKey))=false:=by
  refine Je (Array.any_toList) ?_;refine Je (Array.any_toList) ?_;split at hl
  ·rename_i en he;rw[List.any_eq_true.mpr ⟨en,List.mem_of_find?_eq_some he,List.find?_some he⟩];rfl
  ·split at hl
   ·rcases hl with _|_
   ·rename_i z;rw[Bool.not_eq_true]at z;rw[z,Bool.and_false]
 rw[aRefKeyMayBeTheName_at,c];refine wpAny_updatePart h2 ?_;have D':=Heap.get?_update_self (h:=h) (Obj.putName a (PyData.keyHash W.w.params a) (.str a (tt+1)) v) h2 (by rw[putName_dict];rfl);rw[putName_dict]at D';refine wpAny_bind (wpAny_lookBehind D' (pastItsLine_dict (by have:=Cn (a:=a) (Kl:=PyData.keyHash W.w.params a) (k:=.str a (tt+1)) (v:=v) (es:=es);rw[List.size_toArray,sizeLine_eq];exact aZ hz this)) ?_);exact wpAny_pure (q _ _ _ _ (fun b o hb e=>by rw[Heap.get?_update_ne _ _ _ _ hb];exact e) D')
theorem qw(H:iH W N G)(I:Inv W g σ s.heap)(C:aS W g env ê s.heap){x m:ag}{a:Str}{v w:Value}{K:St->Prop}(ha:ua a N.attrs=true)(rx:bG W g x v)(rm:bG W g m w)(h:n4 x a m σ K):
  wpAny (model W.prog W.w) A (setAttr v a w) (Un W env ê g σ s K) NE s:=by
 refine bc fun hnn=>?_;revert rx;refine tA h fun i h=>?_;refine Tr h fun k l e h=>uW h fun hm h=>Bi h fun nv h rx=>hnn ?_;refine bc fun bf=>?_;obtain⟨hlen,h⟩:=h;obtain⟨p,e1,o1,o2,ne,h1,es,m',h2,hf⟩:=I.cb i _ (iK.mp e);refine bf ?_;have o1:g.O p.1=.b i:=o1;have o2:g.O p.2=.b i:=o2;have h1:s.heap.get? p.1=some (instObj (W.ca k) p.2):=h1;have h2:s.heap.get? p.2=some (dictOf es m'):=h2;refine bR (rx) fun p' e2 ja=>?_;subst ja;obtain rfl:=Option.some.inj (Option.some.inj (e1.symm.trans e2));have hl:(getL a es).isSome=true:=by
  have:=(rB (a:=a) hf).1;split at this
  ·obtain⟨_,e,_⟩:=this;rw[e];rfl
  ·rw[this];rfl
 refine Ng H I ha h1 h2 hl (by rw[Km hf];omega) fun h' tk Kl t keep hn=>?_;have⟨I',P⟩:=I.MR (q:=p.2) (h':=h') (o:=.inst k (i9 a m l)) e1 o2 keep ⟨_,hn⟩ ⟨o1,o2,ne,keep _ _ ne h1,_,_,hn,Kk rm hf⟩ (sX hm (I.sb _ _ (iK.mp e)));exact⟨g,_,h,dO.step C I' P (fun _=>rfl) rfl rfl⟩
end
section
variable{W:Wd}{N:Nm}{G:Own}{A:Around}{s:Shared}{g:Gh}{σ:St}{env:Env}{ê:ak}{d n:Nat}
theorem ly(I:Inv W g σ s.heap){x:ag}{v:Value}{c:List ag}{r:List D}(rx:bG W g x v)(h:σ.obj x=some (.list c r)):∃a ws k,v=.ref a/\s.heap.get? a=some (eu ws k)/\cc W g (items c r) ws:=by
 induction x using ag.casesOn with
 |b i=>
  refine lW (ie I h) fun p ws k' e1 _ hg hr=>?_;refine bR (rx) fun p' e2 ja=>?_;subst ja;obtain rfl:=Option.some.inj (Option.some.inj (e1.symm.trans e2));exact⟨_,_,_,rfl,hg,hr⟩
 |t i=>
  refine lW (qt I h) fun p ws k' e1 _ hg hr=>?_;refine bR (rx) fun p' e2 ja=>?_;subst ja;obtain rfl:=Option.some.inj (e1.symm.trans e2);exact⟨_,_,_,rfl,hg,hr⟩
 |_=>exact Bh h
theorem QH(I:Inv W g σ s.heap)(C:aS W g env ê s.heap){x:ag}{v:Value}{K:Int->Prop}(rx:bG W g x v)(h:Qa x σ K):
  wpAny (model W.prog W.w) A (call (.builtin "len") [v]) (aR W env ê g σ s fun m aF=>aF=σ/\∃k,m=.d (.int k)/\K k) NE s:=by
 have same:∀tk,dO W env ê g σ s g σ {s with toks:=tk}:=fun tk=>dO.ke I C (fun _ _ e=>e) rfl rfl;have out:∀{k:Int} {t:Tok} {tk:Nat},K k->aR W env ê g σ s (fun m aF=>aF=σ/\∃k,m=.d (.int k)/\K k) (.int k t) {s with toks:=tk}:=fun hk=>⟨_,g,σ,⟨rfl,_,rfl,hk⟩,ib _ _,same _⟩;have QI:∀c r,σ.obj x=some (.list c r)->small (c.length+r.length) (K ((c.length+r.length:Nat):Int))->wpAny (model W.prog W.w) A (call (.builtin "len") [v]) (aR W env ê g σ s fun m aF=>aF=σ/\∃k,m=.d (.int k)/\K k) NE s:=fun c r e h=>by
  refine nY (ly I rx e) fun a ws k nR hg hr=>?_;subst nR;have qu:=dv h;have hb:=qu.1;have h:=qu.2;clear qu;have e:ws.toArray.size=c.length+r.length:=by rw[<-ig,<-d6 hr];simp
  refine PyProof.Rows.len_list (fO hg) ?_ ?_
  ·rw[e];exact jn hb
  ·rw[e];exact out h
 refine bc fun hn=>?_;have QI:=fun c r e h=>hn (QI c r e h);revert rx QI
 induction x using ag.casesOn with
 |d x=>
  induction x using PyData.casesOn with
  |list l=>
   refine fun rx _=>hn ?_;refine cG rx fun a vs as ha r1=>?_;have qu:=dv h;have hb:=qu.1;have h:=qu.2;clear qu;have e:vs.toArray.size=l.length:=by simp[readsAll_len r1]
   refine PyProof.Rows.len_list (bZ I.gM ha) ?_ ?_
   ·rw[e];exact jn hb
   ·rw[e];exact out h
  |tuple l=>
   refine fun rx _=>hn ?_;refine du rx fun a vs as ha r1=>?_;have qu:=dv h;have hb:=qu.1;have h:=qu.2;clear qu;have e:vs.toArray.size=l.length:=by simp[readsAll_len r1]
   refine PyProof.Rows.len_tuple (cC I.gM ha) ?_ ?_
   ·rw[e];exact jn hb
   ·rw[e];exact out h
  |str x=>
   refine fun rx _=>hn ?_;refine bx rx fun t=>?_;have qu:=dv h;have hb:=qu.1;have h:=qu.2;clear qu;exact PySem.P.len_str (by have:=jn hb;omega) (out h)
  |_=>exact nf h
 |b i=>exact qK h fun c r e h _ QI=>QI c r e h
 |t i=>exact qK h fun c r e h _ QI=>QI c r e h
 |_=>exact nf h
theorem mc{h:Heap}{vs:List Value}{xs:List D}{as:List Addr}(n:Nat)(r:ReadsAll h vs xs as):∃bs,ReadsAll h (vs.take n) (xs.take n) bs:=
 lh (motive:=fun vs xs=>∀n,∃bs,ReadsAll h (vs.take n) (xs.take n) bs) (fun n=>by rw[List.take_nil,List.take_nil];exact⟨_,.nil⟩)
  (fun _ _ _ _ _ _ a _ ih n=>by
   induction n using Nat.casesAuxOn with
   |zero=>exact⟨_,.nil⟩
   |succ n=>obtain⟨_,q⟩:=ih n;exact⟨_,.cons a q⟩) r n
theorem j5{h:Heap}{vs:List Value}{xs:List D}{as:List Addr}(n:Nat)(r:ReadsAll h vs xs as):∃bs,ReadsAll h (vs.drop n) (xs.drop n) bs:=
 lh (motive:=fun vs xs=>∀n,∃bs,ReadsAll h (vs.drop n) (xs.drop n) bs) (fun n=>by rw[List.drop_nil,List.drop_nil];exact⟨_,.nil⟩)
  (fun _ _ _ _ _ _ a r ih n=>by
   induction n using Nat.casesAuxOn with
   |zero=>exact⟨_,.cons a r⟩
   |succ n=>exact ih n) r n
theorem EP(I:Inv W g σ s.heap)(C:aS W g env ê s.heap){vs:List Value}{xs:List D}{as:List Addr}{Q:KV}(r:ReadsAll g.B vs xs as)(q:Q (.d (.tuple xs)) σ):
  aR W env ê g σ s Q (.ref s.heap.objs.size) {s with heap:=s.heap.push {cls:=.type "tuple",data:=.seq vs.toArray}}:=
 outD q ⟨_,.tuple (fS rfl) rfl rfl (ReadsAll.keeps (fh rfl (jk I (cY _))) (by simpa using r))⟩ (dO.push I C rfl)
theorem Ko(I:Inv W g σ s.heap)(C:aS W g env ê s.heap){vs:List Value}{xs:List D}{as:List Addr}{Q:KV}(r:ReadsAll g.B vs xs as)(q:Q (.d (.list xs)) σ):
  aR W env ê g σ s Q (.ref s.heap.objs.size) {s with heap:=s.heap.push {cls:=.type "list",data:=.seq vs.toArray}}:=
 outD q ⟨_,.list (fS rfl) rfl rfl (ReadsAll.keeps (fh rfl (jk I (cY _))) (by simpa using r))⟩ (dO.push I C rfl)
theorem eH{k:Nat}(h:k<=ah):k<=sizeLine:=by
 have:ah<=sizeLine:=by decide+kernel
 exact aZ h this
theorem ER(a b n:Nat)(hb:b<=n)(HQ:a<=b):Builtin.Slice.sliceAdjust (some (a:Int)) (some (b:Int)) 1 (n:Int)=((a:Int),(b:Int)):=by
 unfold Builtin.Slice.sliceAdjust;have h1:¬((1:Int)<0):=by exact Int.not_lt.mpr (by omega)
 have h2:¬((a:Int)<0):=by exact Int.not_lt.mpr (xr (DK (a)))
 have h3:¬((b:Int)<0):=by exact Int.not_lt.mpr (xr (DK (b)))
 simp only[h1,h2,h3,if_false]
 congr 1<;>omega
theorem ES(a b:Nat)(HQ:a<=b):Builtin.Slice.slicePlaces (a:Int) (b:Int) 1=b-a:=by
 unfold Builtin.Slice.slicePlaces;have h1:(1:Int)>0:=by omega
 simp only[h1,if_true,Int.ediv_one];split<;>omega
theorem sY{prog:Program}{w:World}{E:Value->Shared->Prop}{sl:Addr}{a b n:Nat}{u u':Tok}{Q:Int×Int×Nat->Shared->Prop}(hs:s.heap.IsSliceOf sl (.int a u) (.int b u') .none)(hb:b<=n)(HQ:a<=b)(h:Q ((a:Int),1,b-a) s):
  wpAny (model prog w) A (Builtin.Slice.sliceApplied (.ref sl) (pure (n:Int))) Q E s:=by
 refine i8 (id hs) fun os z9 WH Pa=>?_;unfold Builtin.Slice.sliceApplied Builtin.Slice.sliceFields;refine wpAny_bind (wpAny_bind (wpAny_field z9 Pa (x:=.int a u) rfl (wpAny_bind (wpAny_field z9 Pa (x:=.int b u') rfl (wpAny_bind (wpAny_field z9 Pa (x:=.none) rfl (wpAny_pure ?_)))))));refine wpAny_bind (slicePart_none ?_);show wpAny _ _ (if((1:Int)==0)=true then _ else _) _ _ s;refine az (if_neg (by decide)) ?_;refine wpAny_bind (slicePart_int (wpAny_bind (slicePart_int (wpAny_bind (wpAny_pure ?_)))));show wpAny _ _ (match Builtin.Slice.sliceAdjust (some (a:Int)) (some (b:Int)) 1 (n:Int)with|(lo,hi)=>pure (lo,(1:Int),Builtin.Slice.slicePlaces lo hi 1)) _ _ s;refine az (ER a b n hb HQ) ?_;show wpAny _ _ (pure ((a:Int),(1:Int),Builtin.Slice.slicePlaces (a:Int) (b:Int) 1)) _ _ s;refine az (ES a b HQ) ?_;exact wpAny_pure h
theorem HR(xs:Array Value)(a b:Nat)(HQ:a<=b)(hb:b<=xs.size):((List.range (b-a)).filterMap fun(k:Nat)=>xs[((a:Int)+(k:Int)*1).toNat]?).toArray=((xs.toList.take b).drop a).toArray:=by
 have e:(fun(k:Nat)=>xs[((a:Int)+(k:Int)*1).toNat]?)=fun k=>xs[a+k]?:=by
  funext k
  have:((a:Int)+(k:Int)*1).toNat=a+k:=by omega
  rw[this]
 rw[e];have:=pick_run xs a (b-a);rw[List.filterMap_map]at this;have e2:((fun x=>xs[x]?)∘fun x=>a+x)=fun k=>xs[a+k]?:=rfl;rw[e2]at this;rw[this,List.drop_take]
theorem rC{prog:Program}{w:World}{E:Value->Shared->Prop}{t sl:Addr}{items:Array Value}{a b:Nat}{u u':Tok}{Q:Value->Shared->Prop}(ht:IsTup s.heap t items)(hs:s.heap.IsSliceOf sl (.int a u) (.int b u') .none)(h1:1<=a)(HQ:a<=b)(ha:b<=items.size)
  (h:Q (.ref s.heap.objs.size) {s with heap:=s.heap.push {cls:=.type "tuple",data:=.seq ((items.toList.take b).drop a).toArray}})
  (WC:items.size<=sizeLine):wpAny (model prog w) A (getItem (.ref t) (.ref sl)) Q E s:=by
 have Kp:sizeOk (.seq ((items.toList.take b).drop a).toArray):=by
  show((items.toList.take b).drop a).toArray.size<=sizeLine;refine az (List.size_toArray) ?_;refine az (List.length_drop) ?_;refine az (List.length_take) ?_;refine az (Array.length_toList) ?_;omega
 refine i8 (id hs) fun os z9 WH Pa=>?_;have WI:s.TypeIs (.ref sl) "slice" :=⟨os,z9,WH⟩;unfold getItem
 try with_reducible refine wpAny_holding ?_
 first|refine wpAny_bind (wpAny_pure ?_)|skip
 refine wpAny_bind (wpAny_sequenceKey ht.typeIs (by decide) ?_);refine wpAny_bind (wpAny_callSpecial?_slot (name:=Str.ofString "__getitem__") ht.typeIs slot_tuple_getitem
  (wpAny_call_entry slot_tuple_getitem ht.typeIs entry_tuple_getitem ?_ (args_tuple_getitem _ _)))
 show wpAny _ _ (Builtin.Tuple.tupleItemsOf (.ref t)>>= _) _ _ s;refine wpAny_bind (tupleItemsOf_ ht ?_);refine wpAny_bind (wpAny_typeOf WI ?_);refine az (if_pos (by decide)) ?_;refine wpAny_bind (sY hs ha HQ ?_);have Mx:¬(((a:Int)==0&&(1:Int)==1&&(b-a)==items.size)=true):=by
  have:((a:Int)==0)=false:=by rw[beq_eq_false_iff_ne];omega
  rw[this];simp
 show wpAny _ _ (if((a:Int)==0&&(1:Int)==1&&(b-a)==items.size)=true then _ else _) _ _ s;refine az (if_neg Mx) ?_;refine az (HR items a b HQ ha) ?_
 first
  |exact wpAny_bind (m:=Builtin.Tuple.tupleExact _) (wpAny_newObj_type (wpAny_pure ⟨_,rfl,wpAny_pure h⟩) Kp)
  |exact wpAny_bind (m:=Builtin.Tuple.tupleExact _) (wpAny_newObj_type (wpAny_bind (wpAny_pure (wpAny_pure ⟨_,rfl,wpAny_pure h⟩))) Kp)
  |exact wpAny_bind (wpAny_bind (m:=Builtin.Tuple.tupleExact _) (wpAny_newObj_type (wpAny_pure (wpAny_pure ⟨_,rfl,wpAny_pure h⟩)) Kp))
noncomputable def Nh(v:Value):Option Nat->Prop
 |none=>v=.none
 |some n=>∃t,v=.int (n:Int) t
theorem QJ(I:Inv W g σ s.heap)(C:aS W g env ê s.heap){x:ag}{v lo hi:Value}{a b:Option Nat}{sl:Addr}{K:ag->Prop}(rx:bG W g x v)(h:P8 x a b K)(ra:Nh lo a)(rb:Nh hi b)(hs:s.heap.IsSliceOf sl lo hi .none):
  (∃T,(T= "list" \/T= "tuple")/\s.TypeIs v T)/\wpAny (model W.prog W.w) A (getItem v (.ref sl)) (aR W env ê g σ s fun m aF=>aF=σ/\K m) NE s:=by
 refine bc fun hn=>?_;revert rx;refine cN h fun x h=>?_
 induction x using PyData.casesOn with
 |tuple l=>
  refine fun rx=>hn ?_;refine du rx fun p vs as hp r1=>?_;have rA:=cC I.gM hp;have e:vs.toArray.size=l.length:=by simp[readsAll_len r1]
  refine⟨⟨_,.inr rfl,rA.typeIs⟩,?_⟩;have h:Tt l a b K:=h;revert ra rb;refine lL h fun a ea h ra rb=>?_;subst ea
  induction b using Option.casesOn with
  |none=>
   refine bc fun bf=>?_;obtain⟨⟨h1,h2,h3⟩,h⟩:=h;obtain⟨t,rfl⟩:=ra;rcases rb with _|_
   obtain⟨bs,r⟩:=j5 a r1;refine bf ?_;exact getItem_tuple_from rA hs h1 (by rw[e];exact h2) (EP I C r ⟨rfl,h⟩) (by rw[e];exact eH h3)
  |some b=>
   refine bc fun bf=>?_;obtain⟨⟨h1,h2,h3,h4⟩,h⟩:=h;obtain⟨t,rfl⟩:=ra;obtain⟨t',rfl⟩:=rb;obtain⟨bs,r⟩:=mc b r1;obtain⟨bs,r⟩:=j5 a r;refine bf ?_;exact rC rA hs h1 h2 (by rw[e];exact h3) (EP I C r ⟨rfl,h⟩) (by rw[e];exact eH h4)
 |list l=>
  refine fun rx=>hn ?_;refine cG rx fun p vs as hp r1=>?_;have rA:=bZ I.gM hp;have e:vs.toArray.size=l.length:=by simp[readsAll_len r1]
  refine⟨⟨_,.inl rfl,rA.typeIs⟩,?_⟩;have key:∀(Ys:List Value) (xs:List D),(∃as,ReadsAll g.B Ys xs as)->K (.d (.list xs))->aR W env ê g σ s (fun m aF=>aF=σ/\K m) (.ref s.heap.objs.size) {s with heap:=s.heap.push {cls:=.type "list",data:=.seq Ys.toArray}}:=fun Ys xs ⟨as,r⟩ k=>Ko I C r ⟨rfl,k⟩;have h:Tu l a b K:=h;rcases a with _|a<;>rcases b with _|b
  ·exact nf h
  ·obtain⟨h1,h⟩:=h;refine bc fun bf=>?_;obtain⟨t,rfl⟩:=rb;rcases ra with _|_
   refine bf ?_;refine wpAny_getItem_list_slice rA hs .none (.int _ _) .none (by simp) ?_ (by rw[e];exact eH h1);rw[slicePick_upto'];exact key _ _ (mc _ r1) h
  ·obtain⟨h1,h⟩:=h;refine bc fun bf=>?_;obtain⟨t,rfl⟩:=ra;rcases rb with _|_
   refine bf ?_;refine wpAny_getItem_list_slice rA hs (.int _ _) .none .none (by simp) ?_ (by rw[e];exact eH h1);rw[slicePick_from'];exact key _ _ (j5 _ r1) h
  ·obtain⟨⟨h1,h2,h3⟩,h⟩:=h;refine bc fun bf=>?_;obtain⟨t,rfl⟩:=ra;obtain⟨t',rfl⟩:=rb;refine bf ?_;refine wpAny_getItem_list_slice rA hs (.int _ _) (.int _ _) .none (by simp) ?_ (by rw[e];exact eH h3);refine az (slicePick_run _ _ _ (by rw[e];exact h2) h1) ?_;refine key _ _ ?_ h;refine bc fun bf=>?_;obtain⟨bs,r⟩:=mc _ r1;obtain⟨bs,r⟩:=j5 _ r;refine bf ?_;rw[List.drop_take]at r;exact⟨bs,r⟩
 |_=>exact nf h
theorem QK(H:iH W N G)(a:iu d n A)(hn:n<=300)(I:Inv W g σ s.heap)(C:aS W g env ê s.heap){x:ag}{v:Value}{K:D->Prop}(rx:bG W g x v)(h:Qd x K):
  wpAny (model W.prog W.w) A (call (.type "str") [v]) (aR W env ê g σ s fun m aF=>aF=σ/\∃z,m=.d z/\K z) NE s:=by
 have same:∀tk,dO W env ê g σ s g σ {s with toks:=tk}:=fun tk=>dO.ke I C (fun _ _ e=>e) rfl rfl;have Ut:∀(dd:D) (a:Addr) (as:List Addr),Reads g.B (.ref a) dd as->dd.showable=true->dd.hasDict=false->dd.depth<=20->dd.shown.length<=ah->K (.str dd.shown)->wpAny (model W.prog W.w) A (call (.type "str") [.ref a]) (aR W env ê g σ s fun m aF=>aF=σ/\∃z,m=.d z/\K z) NE s:=fun dd p as r h1 h2 h3 h4 hk=>by
  refine str_of_reads r h1 (fun z=>by rw[h2]at z;rcases z with _|_) a.guards ?_ I.gM (fun h' u tk k=>?_) (eH h4)
  ·have:=a.units;show _<9900;exact aZ h3 this
  ·exact⟨_,g,σ,⟨rfl,_,rfl,hk⟩,nz _ _,dO.ke I C k rfl rfl⟩
 refine bc fun hn=>?_;revert rx;refine cN h fun x h=>?_
 induction x using PyData.casesOn with
 |str x=>
  refine fun rx=>hn ?_;refine bx rx fun t=>?_;exact PySem.P.str_of_str ⟨_,g,σ,⟨rfl,_,rfl,h⟩,nz _ _,same _⟩
 |int i=>
  refine fun rx=>hn ?_;refine aK rx fun t=>?_;have hb:=h.1;have h:=h.2;refine PySem.P.str_of_int ?_ ⟨_,g,σ,⟨rfl,_,rfl,h⟩,?_,same _⟩
  ·have h1:i.natAbs<=1000000:=hb;by_cases z:i.natAbs=0
   ·rw[z];decide+kernel
   ·have:=(Nat.log2_lt (n:=i.natAbs) (k:=1920) z).mpr (Nat.lt_of_le_of_lt h1 (by decide+kernel));exact this
  ·exact nz _ _
 |bool b=>
  refine fun rx=>hn ?_;refine jl rx ?_;refine PySem.P.str_of_bool ⟨_,g,σ,⟨rfl,_,rfl,h⟩,?_,same _⟩;rcases b with _|_<;>exact nz _ _
 |list l=>
  refine fun rx=>hn ?_;obtain⟨⟨h1,h2,h3,h4⟩,h⟩:=h;refine nY (lx rx) fun p vs as nR _ _=>?_;subst nR;obtain⟨as,r⟩:=rx;exact Ut _ _ _ r h1 h2 h3 h4 h
 |tuple l=>
  refine fun rx=>hn ?_;obtain⟨⟨h1,h2,h3,h4⟩,h⟩:=h;refine nY (gT rx) fun p vs as nR _ _=>?_;subst nR;obtain⟨as,r⟩:=rx;exact Ut _ _ _ r h1 h2 h3 h4 h
 |_=>exact nf h
theorem HS(I:Inv W g σ s.heap)(C:aS W g env ê s.heap){l:List D}{v:Value}(rx:bG W g (.d (.list l)) v)(h:l.length<=ah):
  wpAny (model W.prog W.w) A (call (.type "list") [v]) (aR W env ê g σ s fun m aF=>aF=σ/\m=.d (.list l)) NE s:=by
 refine cG rx fun p vs as hp r1=>?_;refine bc fun bf=>?_;obtain⟨o,ho,hc,n,hd⟩:=bZ I.gM hp;refine bf ?_;refine call_list_seq p (.inl rfl) ho hc hd (fun h' c' k hn=>?_) (by simp[readsAll_len r1];exact eH h);have⟨I',P⟩:=I.MP k (cY _) hn rfl;refine⟨.d (.list l),_,σ,⟨rfl,rfl⟩,?_,⟨I',C.post P fun _=>rfl,P,rfl,rfl⟩⟩;exact⟨_,.list (fS rfl) rfl rfl (ReadsAll.keeps (fh rfl (jk I (cY _))) (by simpa using r1))⟩
theorem ET(I:Inv W g σ s.heap)(C:aS W g env ê s.heap){l:List D}{v:Value}(rx:bG W g (.d (.list l)) v)(h:l.length<=ah):
  wpAny (model W.prog W.w) A (call (.type "tuple") [v]) (aR W env ê g σ s fun m aF=>aF=σ/\m=.d (.tuple l)) NE s:=by
 refine cG rx fun p vs as hp r1=>?_;refine call_tuple_list (bZ I.gM hp) (fun h' k=>?_) (by simp[readsAll_len r1];exact eH h);have hn:s.heap.get? h'.objs.size=none:=by
  cases q:s.heap.get? h'.objs.size with
  |none=>rfl
  |some o=>exact absurd (Heap.lt_size (k _ _ q)) (Nat.lt_irrefl _)
 have⟨I',P⟩:=I.MP (h':=h'.push {cls:=.type "tuple",data:=.seq vs.toArray}) (fun b o e=>Heap.get?_push_of_some _ (k b o e)) hn (Heap.get?_push_size _ rfl) rfl;refine⟨.d (.tuple l),_,σ,⟨rfl,rfl⟩,?_,⟨I',C.post P fun _=>rfl,P,rfl,rfl⟩⟩;exact⟨_,.tuple (fS rfl) rfl rfl (ReadsAll.keeps (fh rfl (jk I hn)) (by simpa using r1))⟩
end
section
variable{W:Wd}{N:Nm}{G:Own}{A:Around}{s:Shared}{g:Gh}{σ:St}{env:Env}{ê:ak}{d n:Nat}
theorem kY:∀{l m:List ag} {us vs:List Value},cc W g l us->cc W g m vs->cc W g (l++m) (us++vs)
 |[],_,[],_,_,r=>r
 |_::_,_,_::_,_,⟨a,b⟩,r=>⟨a,kY b r⟩
 |[],_,_::_,_,z,_=>z.elim
 |_::_,_,[],_,z,_=>z.elim
theorem qx(x:ag)(c:List ag)(r:List D):items (x::c) r=items c r++[x]:=by
 unfold items;rw[List.cons_append,List.reverse_cons]
theorem ox(y:D)(r:List D):items [] (y::r)=items [] r++[.d y]:=by
 unfold items;rw[List.nil_append,List.nil_append,List.map_cons,List.reverse_cons]
theorem qy{x:ag}{c:List ag}(hx:j9 x=true)(hc:jd c=true):jd (x::c)=true:=by
 show(j9 x&&jd c)=true;rw[hx,hc];rfl
theorem QL{h:Heap}{a:Addr}{ws:List Value}{k:Nat}(hg:h.get? a=some (eu ws k))(f:Array Value->Array Value)(us:List Value)(e:f ws.toArray=us.toArray):∃k',(h.update a (Obj.mapSeq f)).get? a=some (eu us k'):=by
 refine⟨if(f ws.toArray).size==ws.toArray.size then k else k+1,(Heap.get?_update_self _ hg rfl).trans ?_⟩;show some ({cls:=.type "list",data:=.seq (f ws.toArray) (if(f ws.toArray).size==ws.toArray.size then k else k+1)}:Obj)=_;rw[e]
theorem Cp{h:Heap}{a:Addr}(f:Obj->Obj):∀b o,b≠a->h.get? b=some o->(h.update a f).get? b=some o:=fun b o hb e=>by
 rw[Heap.get?_update_ne _ _ _ _ hb];exact e
theorem oy(I:Inv W g σ s.heap)(C:aS W g env ê s.heap){x:ag}{v:Value}{c c':List ag}{r r':List D}(rx:bG W g x v)(hx:σ.obj x=some (.list c r)){l:Addr}{ws us:List Value}{k:Nat}(hv:v=.ref l)(hg:s.heap.get? l=some (eu ws k))(f:Array Value->Array Value)(e:f ws.toArray=us.toArray)
  (hr:cc W g (items c' r') us) (hT:∀i,x=.b i->jd c'=true) (hV:∀i,x=.t i->kx c'=true):dO W env ê g σ s g (σ.put x (.list c' r')) {s with heap:=s.heap.update l (Obj.mapSeq f)}:=by
 obtain⟨k',hn⟩:=QL hg f us e
 induction x using ag.casesOn with
 |b i=>
  refine lW (ie I hx) fun p ws' k'' e1 o1 _ _=>?_;refine bR (rx) fun p' e2 ev=>?_;obtain rfl:=Option.some.inj (Option.some.inj (e1.symm.trans e2));rw[hv]at ev;rcases ev with _|_
  have⟨I',P⟩:=I.MR (q:=p.1) (h':=s.heap.update p.1 (Obj.mapSeq f)) (o:=.list c' r') e1 o1 (Cp _) ⟨_,hn⟩ ⟨o1,_,_,hn,hr⟩ (hT i rfl);exact dO.step C I' P (fun _=>rfl) rfl rfl
 |t i=>
  refine lW (qt I hx) fun p ws' k'' e1 o1 _ _=>?_;refine bR (rx) fun p' e2 ev=>?_;obtain rfl:=Option.some.inj (e1.symm.trans e2);rw[hv]at ev;rcases ev with _|_
  have⟨I',P⟩:=I.Yb (q:=l) (h':=s.heap.update l (Obj.mapSeq f)) (o:=.list c' r') e1 o1 (Cp _) ⟨_,hn⟩ ⟨o1,_,_,hn,hr⟩ (fun _ _ z=>nomatch z) (fun c r z=>by rcases z with _|_;exact hV i rfl) (fun _ z=>nomatch z);exact dO.step C I' P (fun _=>rfl) rfl rfl
 |_=>exact Bh hx
theorem yC(I:Inv W g σ s.heap){i:Nat}{c:List ag}{r:List D}(h:σ.nU i=some (.list c r)):jd c=true:=I.sb i _ (iK.mp h)
theorem HT(I:Inv W g σ s.heap)(C:aS W g env ê s.heap){x y:ag}{v w:Value}{K:St->Prop}(rx:bG W g x v)(ry:bG W g y w)(h:y7 x y σ K):
  ∃l items k,v=.ref l/\items.size<=sizeLine/\IsL s.heap l items k/\∃aF,K aF/\dO W env ê g σ s g aF {s with heap:=s.heap.update l (Obj.mapSeq fun xs=>xs.push w)}:=by
 have key:∀c r c' r',σ.obj x=some (.list c r)->c.length+r.length<ah->items c' r'=items c r++[y]->(∀i,x=.b i->jd c=true->jd c'=true)->(∀i,x=.t i->kx c'=true)->K (σ.put x (.list c' r'))->
   ∃l items k,v=.ref l/\items.size<=sizeLine/\IsL s.heap l items k/\∃aF,K aF/\dO W env ê g σ s g aF {s with heap:=s.heap.update l (Obj.mapSeq fun xs=>xs.push w)}:=fun c r c' r' e hb ei h1 h2 h=>by
  refine nY (ly I rx e) fun l ws k nR hg hr=>?_;subst nR;have hz:ws.toArray.size<=sizeLine:=by
   have:=d6 hr;rw[ig]at this;rw[List.size_toArray,this];exact eH (Nat.le_of_lt hb)
  refine⟨l,_,k,rfl,hz,hg,_,h,oy (us:=ws++[w]) I C rx e rfl hg _ (by simp) ?_ (fun i z=>h1 i z ?_) h2⟩
  ·rw[ei];exact kY hr ⟨ry,trivial⟩
  ·subst z;exact yC I e
 refine bc fun hn=>?_;have key:=fun c r c' r' e hb ei h1 h2 h=>hn (key c r c' r' e hb ei h1 h2 h);clear rx hn
 induction x using ag.casesOn with
 |b i=>
  refine qK h fun c r e h=>?_;obtain⟨hb,h⟩:=h
  induction c using List.casesOn with
  |nil=>
   clear ry
   induction y using ag.casesOn with
   |d y=>exact key [] r [] (y::r) e hb (ox _ _) (fun _ _ _=>rfl) (fun _ z=>nomatch z) h
   |t j=>exact nf h
   |_=>exact key [] r [_] r e hb (qx _ _ _) (fun _ _ _=>rfl) (fun _ z=>nomatch z) h
  |cons z c=>exact uW h fun hn h=>key (z::c) r (y::z::c) r e hb (qx _ _ _) (fun _ _ q=>qy hn q) (fun _ z=>nomatch z) h
 |t i=>
  refine qK h fun c r e h=>?_;revert e;refine gW h fun h=>?_;clear ry;revert key;refine cN h fun y h key e=>?_;exact key [] r [] (y::r) e h.1 (ox _ _) (fun _ z _=>nomatch z) (fun _ _=>rfl) h.2
 |_=>exact nf h
theorem EU{k:Nat}(h:k<=ah):k+1<=sizeLine:=by
 have:ah+1<=sizeLine:=by decide+kernel
 exact aZ h this
theorem EV(us:List Value)(v:Value):(us++[v]).toArray.eraseIdxIfInBounds ((us++[v]).toArray.size-1)=us.toArray:=by
 unfold Array.eraseIdxIfInBounds;have h:(us++[v]).eraseIdx us.length=us:=by
  induction us with
  |nil=>rfl
  |cons u us ih=>simpa using ih
 simpa using h
theorem QM(I:Inv W g σ s.heap)(C:aS W g env ê s.heap){x:ag}{v:Value}{K:KV}(rx:bG W g x v)(h:Qc x σ K):
  ∃l items k y,v=.ref l/\items.size<=sizeLine/\IsL s.heap l items k/\items[items.size-1]?=some y/\aR W env ê g σ s K y {s with heap:=s.heap.update l (Obj.mapSeq fun xs=>xs.eraseIdxIfInBounds (items.size-1))}:=by
 revert rx;refine tA h fun i h=>qK h fun c r e h rx=>?_;have h:Tw c r (fun x o=>K x (σ.lg i (some o))):=h
 ··refine nY (ly I rx (show σ.obj (.b i)=_ from e)) fun l ws k nR hg hr=>?_;subst nR;have key:∀(c':List ag) (r':List D) (m:ag),c'.length+r'.length<=ah->items c r=items c' r'++[m]->jd c'=true->K m (σ.lg i (some (.list c' r')))->∃Yt items k_1 y,Value.ref l=Value.ref Yt/\items.size<=sizeLine/\IsL s.heap Yt items k_1/\items[items.size-1]?=some y/\aR W env ê g σ s K y {s with heap:=s.heap.update Yt (Obj.mapSeq fun xs=>xs.eraseIdxIfInBounds (items.size-1))}:=fun c' r' m hb ei hn hk=>by
    have hz:ws.toArray.size<=sizeLine:=by
     have:=d6 hr;rw[ei,List.length_append,ig]at this;rw[List.size_toArray,this];exact EU hb
    rw[ei]at hr;refine nW (vX hr) fun us y ja ry=>?_;subst ja;have jc:cc W g (items c' r') us:=by
     have:∀(l:List ag) (us:List Value),cc W g (l++[m]) (us++[y])->cc W g l us:=by
      intro l
      induction l with
      |nil=>intro us h;induction us using List.casesOn with
       |nil=>trivial
       |cons u us=>rcases us with _|_<;>exact h.2.elim
      |cons x l ih=>intro us h;induction us using List.casesOn with
       |nil=>rcases l with _|_<;>exact h.2.elim
       |cons u us=>exact⟨h.1,ih us h.2⟩
     exact this _ _ hr
    refine⟨l,_,k,y,rfl,hz,hg,by simp,m,g,_,hk,ry,oy (us:=us) I C rx (show σ.obj (.b i)=_ from e) rfl hg _ (EV us y) jc (fun _ _=>hn) (fun _ z=>nomatch z)⟩
   have hn:=yC I e
   induction c using List.casesOn with
   |cons x c'=>
    have hn:(j9 x&&jd c')=true:=hn;rw[Bool.and_eq_true]at hn;obtain⟨hb,h⟩:=dv h;exact key c' r x hb (qx _ _ _) hn.2 h
   |nil=>
    induction r using List.casesOn with
    |cons y r'=>
     obtain⟨hb,h⟩:=dv h;exact key [] r' (.d y) (by rw[List.length_nil,Nat.zero_add];exact hb) (ox _ _) rfl h
    |nil=>exact nf h
end
section
variable{W:Wd}{N:Nm}{G:Own}{A:Around}{s:Shared}{g:Gh}{σ:St}{env:Env}{ê:ak}{d n:Nat}
theorem qz{x:Str}{m:ag}{v:Value}(hv:bG W g m v):∀{l:List (Str×ag)} {gK:List (Str×Value)},gd W g l gK->(gK.map (·.1)).Nodup->gd W g (i9 x m l) (stored gK x v)
 |[],[],_,_=>⟨rfl,hv,trivial⟩
 |p::l,q::gK,⟨e,r,rs⟩,hn=>by
  have pM:=List.nodup_cons.mp hn;unfold i9;cases z:eZ p.1 x with
  |true=>
   have e':=bj.mp z;have hq:q.1=x:=e.trans e';unfold stored;have h1:(q::gK).any (fun kv=>kv.1=x)=true:=by simp[hq]
   refine az (if_pos h1) ?_;refine az (List.map_cons) ?_;refine az (if_pos hq) ?_;refine az (map_store_of_not_mem gK x v (hq▸pM.1)) ?_;exact⟨e,hv,rs⟩
  |false=>
   have e':=iV.mp z;have hq:¬q.1=x:=fun h=>e' (e.symm.trans h);have ih:=qz (x:=x) hv rs pM.2;have:stored (q::gK) x v=q::stored gK x v:=by
    unfold stored;by_cases h:gK.any (fun kv=>kv.1=x)=true
    ·rw[if_pos h,if_pos (by rw[List.any_cons,h,Bool.or_true]),List.map_cons,if_neg hq]
    ·have h2:¬(q::gK).any (fun kv=>kv.1=x)=true:=by rw[List.any_cons];simp[hq];simpa using h
     rw[if_neg h,if_neg h2];rfl
   refine az (this) ?_;exact⟨e,r,ih⟩
 |[],_::_,z,_=>z.elim
 |_::_,[],z,_=>z.elim
theorem Aa{x:Str}{v:Value}{gK:List (Str×Value)}(hn:(gK.map (·.1)).Nodup):((stored gK x v).map (·.1)).Nodup:=by
 unfold stored;split
 ·refine az (List.map_map) ?_;have:((fun x=>x.1)∘fun(kv:Str×Value)=>if kv.1=x then(kv.1,v)else kv)=fun kv=>kv.1:=by
   funext kv;simp only[Function.comp];split<;>rfl
  rw[this];exact hn
 ·rename_i h;rw[List.map_append,List.nodup_append];refine⟨hn,by simp,?_⟩;intro a ha b hb e;simp at hb;subst hb;refine bR (List.mem_map.mp ha) fun kv hk ja=>?_;subst ja;exact h (List.any_eq_true.mpr ⟨kv,hk,by simpa using e⟩)
theorem EW:∀{m:List (Str×ag)} {more:List (Str×Value)} {l:List (Str×ag)} {gK:List (Str×Value)},gd W g m more->gd W g l gK->(gK.map (·.1)).Nodup->gd W g (sm l m) (merged gK more):=by
 intro l0
 induction l0 with
 |nil=>
  intro l1;rcases l1 with _|⟨y0,nK⟩
  ·intro _ _ _ r _;exact r
  ·intro _ _ z _ _;exact z.elim
 |cons p m ih=>
  intro l1;rcases l1 with _|⟨q,more⟩
  ·intro _ _ z _ _;exact z.elim
  ·rintro l gK ⟨e,a,b⟩ r hn
   show gd W g (sm (i9 p.1 p.2 l) m) (merged (stored gK q.1 q.2) more);refine az (e) ?_;exact ih b (qz a r hn) (Aa hn)
theorem rD:∀{m l:List (Str×ag)},kG m=true->kG l=true->kG (sm l m)=true
 |[],_,_,h=>h
 |p::m,l,h,h'=>by
  have h:(j9 p.2&&kG m)=true:=h;rw[Bool.and_eq_true]at h;exact rD (m:=m) h.2 (sX h.1 h')
theorem sZ:∀{l:List (Str×ag)} {gK:List (Str×Value)},gd W g l gK->gK.length=l.length:=by
 intro l0
 induction l0 with
 |nil=>
  intro l1;rcases l1 with _|⟨y0,nK⟩
  ·intro _;exact rfl
  ·intro z;exact z.elim
 |cons x0 Ji ih=>
  intro l1;rcases l1 with _|⟨y0,nK⟩
  ·intro z;exact z.elim
  ·rintro ⟨_,_,r⟩
   exact congrArg (·+1) (ih r)
theorem rE{h:Heap}{a:Addr}{gK:List (Str×Value)}(hd:Heap.DictOf (strKind W.prog W.w) h a gK):(gK.map (·.1)).Nodup:=by
 obtain⟨_,_,_,_,_,_,_,_,hn⟩:=hd;exact hn
theorem oz{h:Heap}{a:Addr}{gK:List (Str×Value)}(hd:Heap.DictOf (strKind W.prog W.w) h a gK):∃o,h.get? a=some o:=by
 obtain⟨o,_,_,ho,_⟩:=hd;exact⟨o,ho⟩
theorem HU(H:iH W N G)(I:Inv W g σ s.heap)(C:aS W g env ê s.heap){x y:ag}{v w:Value}{K:St->Prop}(rx:bG W g x v)(ry:bG W g y w)(h:Qb x y σ K):
  ∃d o,v=.ref d/\w=.ref o/\d≠o/\(o==sysModules)=false/\∃gK more,s.heap.DictOf (strKind W.prog W.w) d gK/\s.heap.DictOf (strKind W.prog W.w) o more/\gK.length+more.length<=sizeLine/\
   ∀h',h'.DictOf (strKind W.prog W.w) d (merged gK more)->h'.DictOf (strKind W.prog W.w) o more->Heap.SameBut d s.heap h'->∃aF,K aF/\dO W env ê g σ s g aF {s with heap:=h'}:=by
 refine bc fun hn=>?_;revert rx ry;refine tA h fun i h=>tA h fun j h=>Ha h fun l e h=>Ha h fun m e' h rx ry=>hn ?_
 ··obtain⟨⟨lj,hlen⟩,h⟩:=h;refine DI (k6 I e) fun p gK e1 o1 hd hr=>?_;refine bR (rx) fun p' e2 ja=>?_;subst ja;obtain rfl:=Option.some.inj (Option.some.inj (e1.symm.trans e2));refine DI (k6 I e') fun q more f1 o2 Kn jc=>?_;refine bR (ry) fun q' f2 ja=>?_;subst ja;obtain rfl:=Option.some.inj (Option.some.inj (f1.symm.trans f2));refine⟨p.1,q.1,rfl,rfl,fun z=>?_,z7 H I o2 (fun z=>nomatch z),gK,more,hd,Kn,?_,fun h' k1 k2 sb=>?_⟩
   ·rw[z,o2]at o1;rcases o1 with _|_;exact lj rfl
   ·rw[sZ hr,sZ jc];exact Nat.le_trans hlen (by decide+kernel)
   ·have⟨I',P⟩:=I.MR (q:=p.1) (h':=h') (o:=.dict (sm l m)) e1 o1 (fun b o hb e=>sb.extBut b o hb e) (oz k1) ⟨o1,_,k1,EW jc hr (rE hd)⟩ (rD (I.sb _ _ (iK.mp e')) (I.sb _ _ (iK.mp e)));exact⟨_,h,dO.step C I' P (fun _=>rfl) rfl rfl⟩
theorem Ab(prog:Program)(w:World)(l b:Addr):MeetsIn prog w (Builtin.«list.extend» ⟨[.ref l,.ref b],[]⟩) (fun _ R s=>∃items jQ n n2 o,IsL s.heap l items n/\s.heap.get? b=some o/\o.cls=.type "list" /\o.data=.seq jQ n2/\items.size+jQ.size<=sizeLine/\
  R (.ok (.ret .none)) {s with heap:=s.heap.update l (Obj.mapSeq fun xs=>xs++jQ)}):=
 .of_wp fun A R s ⟨items,jQ,n,n2,o,hl,ho,hc,hd,hz,h⟩=>by
  have hz1:items.size<=sizeLine:=Nat.le_trans (Nat.le_add_right _ _) hz;have QN:(items++jQ).size<=sizeLine+1:=by rw[Array.size_append];exact ai hz
  have f4:Builtin.List.listTooLong (items.size+jQ.size)=false:=by
   unfold Builtin.List.listTooLong;exact decide_eq_false (by omega)
  show wpAny _ _ (Builtin.List.listExtendWith (.ref l) (.ref b) .none) _ _ s;unfold Builtin.List.listExtendWith;refine wpAny_bind (wpAny_typeOf (s:=s) (T:= "list") ⟨o,ho,hc⟩ ?_);have h1:(Builtin.List.listSameRef (.ref l) (.ref b)||Value.type "list" ==Value.type "list" ||Value.type "list" ==Value.type "tuple")=true:=by simp
  simp only[h1,if_true];refine wpAny_bind ?_;unfold Builtin.List.listItems;refine wpAny_bind (wpAny_seqItems ho hd (wpAny_pure ?_));refine wpAny_bind ?_;refine wpAny_bind (wpAny_seqItems hl rfl (wpAny_pure ?_));rw[f4,Bool.and_false];show wpAny _ _ (updateSeq l (·++jQ)>>= fun _=>ret .none) _ _ s;refine wpAny_bind (wpAny_updateSeq hl rfl ?_ (hz:=hz1) (_hz':=QN));exact wpAny_pure ⟨_,rfl,h⟩
theorem HV(l r:List D):items [] (l.reverse++r)=items [] r++l.map ag.d:=by
 unfold items;rw[List.nil_append,List.nil_append,List.map_append,List.reverse_append,List.map_reverse,List.reverse_reverse]
theorem HW(I:Inv W g σ s.heap)(C:aS W g env ê s.heap){x y:ag}{v w:Value}{K:St->Prop}(rx:bG W g x v)(ry:bG W g y w)(h:y8 x y σ K):
  ∃l b,v=.ref l/\w=.ref b/\∃items jQ n n2 o,IsL s.heap l items n/\s.heap.get? b=some o/\o.cls=.type "list" /\o.data=.seq jQ n2/\items.size+jQ.size<=sizeLine/\
  ∃aF,K aF/\dO W env ê g σ s g aF {s with heap:=s.heap.update l (Obj.mapSeq fun xs=>xs++jQ)}:=by
 refine bc fun hn=>?_;revert rx ry;refine Jr h fun i h=>cN h fun x h=>Ju h fun m h=>qK h fun c r e h=>?_;revert e;refine gW h fun h e rx ry=>hn ?_
 ··obtain⟨hb,h⟩:=h;refine nY (ly I rx (show σ.obj (.t i)=_ from e)) fun l ws k nR hg hr=>?_;subst nR;refine cG ry fun p vs as hp r1=>?_;refine bc fun bf=>?_;obtain⟨o,ho,hc,n2,hd⟩:=bZ I.gM hp;refine bf ?_;have e1:=d6 hr;rw[ig]at e1;refine⟨l,p,rfl,rfl,_,_,k,n2,o,hg,ho,hc,hd,?_,_,h,oy (us:=ws++vs) I C rx (show σ.obj (.t i)=_ from e) rfl hg _ (by simp) ?_ (fun _ z=>nomatch z) (fun _ _=>rfl)⟩
   ·rw[List.size_toArray,List.size_toArray,e1,readsAll_len r1,List.length_nil,Nat.zero_add];exact eH (Nat.le_of_lt hb)
   ·rw[HV];exact kY hr (u9 r1)
theorem yc{prog:Program}{w:World}{E:Value->Shared->Prop}{l:Addr}{items:Array Value}{n:Nat}{k:Int}{t:Tok}{v:Value}{Q:Unit->Shared->Prop}(hl:IsL s.heap l items n)
  (h0:0<=k) (Uu:k<2 ^ 63) (hn:k<items.size) (hQ:Q () {s with heap:=s.heap.update l (Obj.mapSeq (·.setIfInBounds k.toNat v))}):
  wpAny (model prog w) A (setItem (.ref l) (.int k t) v) Q E s:=by
 have xw:=hl.isList;unfold setItem
 try with_reducible refine wpAny_holding ?_
 first|refine wpAny_bind (wpAny_pure ?_)|skip
 refine wpAny_bind (wpAny_sequenceKey xw.typeIs (by decide) ?_);refine wpAny_bind (wpAny_callSpecial?_slot (name:=Str.ofString "__setitem__") xw.typeIs slot_list_setitem
  (wpAny_call_entry slot_list_setitem xw.typeIs entry_list_setitem ?_ (args_list_setitem _ _ _)))
 show wpAny _ _ (Builtin.List.listSubscript? (.int k t)>>= _) _ _ s;refine wpAny_bind (wpAny_listSubscript_int (fitsIndex_of h0 Uu) ?_);clear Uu;obtain⟨j,rfl⟩:=Int.eq_ofNat_of_zero_le h0;have hj:j<items.size:=by omega
 have WJ:items[j]?=some items[j]:=Array.getElem?_eq_getElem hj;show wpAny _ _ ((seqItemAt l j>>= fun r=>pure (r.map (j,·)))>>= _) _ _ s;refine wpAny_bind (wpAny_bind (wpAny_seqItemAt hl rfl (wpAny_pure ?_)));refine az (WJ) ?_;show wpAny _ _ (setSeqItemAt l j v>>= _) _ _ s;refine wpAny_bind (wpAny_setSeqItemAt hl rfl ?_)
 first
  |exact wpAny_bind (wpAny_pure (wpAny_pure ⟨.none,rfl,wpAny_pure hQ⟩))
  |exact wpAny_pure ⟨.none,rfl,wpAny_pure hQ⟩
noncomputable def md(items:Array Value):Prop:=Builtin.List.listTooLong (items.size+(#[]:Array Value).size)=false
theorem Cq{prog:Program}{w:World}{E:Value->Shared->Prop}{l sl e:Addr}{items:Array Value}{n:Nat}{a:Nat}{u:Tok}{Q:Unit->Shared->Prop}(hl:IsL s.heap l items n)
  (hs:s.heap.IsSliceOf sl (.int a u) .none .none) (he:s.heap.IsList e #[]) (qI:l≠e) (ha:a<=items.size) (hz:items.size<=sizeLine)
  (hQ:∀f:Array Value->Array Value,f items=items.extract 0 a->Q () {s with heap:=s.heap.update l (Obj.mapSeq f)}):
  wpAny (model prog w) A (setItem (.ref l) (.ref sl) (.ref e)) Q E s:=by
 refine bc fun bf=>?_;obtain⟨oe,hoe,hce,ne,hde⟩:=id he;refine bf ?_;have xw:=hl.isList;refine i8 (id hs) fun os z9 WH Pa=>?_;have WI:s.TypeIs (.ref sl) "slice" :=⟨os,z9,WH⟩;unfold setItem
 try with_reducible refine wpAny_holding ?_
 first|refine wpAny_bind (wpAny_pure ?_)|skip
 refine wpAny_bind (wpAny_sequenceKey xw.typeIs (by decide) ?_);refine wpAny_bind (wpAny_callSpecial?_slot (name:=Str.ofString "__setitem__") xw.typeIs slot_list_setitem
  (wpAny_call_entry slot_list_setitem xw.typeIs entry_list_setitem ?_ (args_list_setitem _ _ _)))
 show wpAny _ _ (Builtin.List.listSubscript? (.ref sl)>>= _) _ _ s;refine wpAny_bind ?_;unfold Builtin.List.listSubscript?;refine wpAny_bind (wpAny_specialOf WI slice_no_index ?_);simp only[Option.isNone_none,if_true];refine wpAny_pure ?_;show wpAny _ _ (typeOf (.ref sl)>>= _) _ _ s;refine wpAny_bind (wpAny_typeOf WI ?_);refine az (if_neg (by decide)) ?_;rw[listSliceParts_eq];refine wpAny_bind (wpAny_bind (wpAny_field z9 Pa (x:=.none) rfl (wpAny_bind (wpAny_listPart .none ?_))));refine az (if_neg (show ¬((rawPart none==rawInt 0)=true)from Bool.false_ne_true)) ?_;refine wpAny_bind (wpAny_field z9 Pa (x:=.int a u) rfl (wpAny_bind (wpAny_listPart (.int _ _) ?_)));refine wpAny_bind (wpAny_field z9 Pa (x:=.none) rfl (wpAny_bind (wpAny_listPart .none (wpAny_pure ?_))));have Uv:Builtin.List.listSameRef (.ref l) (.ref e)=false:=by
  unfold Builtin.List.listSameRef
  simpa using qI
 have hb:sliceBounds (some (a:Int)) none none items.size=((a:Int),(items.size:Int),1):=by
  have i1:¬((a:Int)<0):=Int.not_lt.mpr (Int.natCast_nonneg a);have i2:min (a:Int) (items.size:Int)=a:=Int.min_eq_left (Int.ofNat_le.mpr ha);have i3:max (0:Int) (a:Int)=a:=Int.max_eq_right (Int.natCast_nonneg a);unfold sliceBounds;simp[i1,i2,i3]
 have e2:(max (a:Int) (items.size:Int)).toNat=items.size:=by
  rw[Int.max_eq_right (Int.ofNat_le.mpr ha)];exact Int.toNat_natCast _
 have hf:md items:=by
  unfold md Builtin.List.listTooLong;refine decide_eq_false (Nat.not_lt.mpr ?_);exact hz
 simp only[Uv,Bool.false_eq_true,if_false];refine wpAny_bind ?_;unfold Builtin.List.listAllItems;refine wpAny_bind (wpAny_typeOf he.typeIs ?_);simp only[beq_self_eq_true,Bool.true_or,if_true];unfold Builtin.List.listItems;refine wpAny_bind (wpAny_seqItems hoe hde (wpAny_pure ?_));refine wpAny_bind ?_;refine wpAny_bind (wpAny_seqItems hl rfl (wpAny_pure ?_));refine wpAny_bind (wpAny_of_eq (sliceIndices_raw (some (a:Int)) none none items.size (by simp)) ?_);refine az (hb) ?_;have h1:((1:Int)==1)=true:=rfl;simp only[h1,if_true];refine wpAny_bind (wpAny_rule ?_);unfold md at hf;refine az (hf) ?_;have QN:(items.extract 0 (a:Int).toNat++#[]++items.extract (max (a:Int) (items.size:Int)).toNat).size<=sizeLine+1:=by
  rw[e2,Array.size_append,Array.size_append,Array.size_extract,Array.size_extract,Nat.min_self,Nat.sub_self,Nat.sub_zero,Int.toNat_natCast,Nat.min_eq_left ha];exact Nat.le_succ_of_le (Nat.le_trans ha hz)
 show wpAny _ _ (updateSeq l (fun xs=>xs.extract 0 (a:Int).toNat++#[]++xs.extract (max (a:Int) (items.size:Int)).toNat)>>= fun _=>_) _ _ s;refine wpAny_bind (wpAny_updateSeq hl rfl ?_ (hz:=hz) (_hz':=QN));refine wpAny_bind (wpAny_letGo ?_);refine wpAny_pure ⟨.none,rfl,wpAny_pure (hQ _ ?_)⟩;refine az (e2) ?_;simp
theorem Ac(ws:List Value)(a:Nat):ws.toArray.extract 0 a=(ws.take a).toArray:=by simp
theorem Cr:∀{l:List ag} {ws:List Value} (k:Nat),cc W g l ws->cc W g (l.take k) (ws.take k)
 |_,_,0,_=>trivial
 |[],[],_+1,_=>trivial
 |_::_,_::_,k+1,⟨a,b⟩=>⟨a,Cr k b⟩
 |[],_::_,_+1,z=>z.elim
 |_::_,[],_+1,z=>z.elim
theorem Cs:∀{l:List ag} {ws:List Value} (k:Nat),cc W g l ws->cc W g (l.drop k) (ws.drop k)
 |_,_,0,h=>h
 |[],[],_+1,_=>trivial
 |_::_,_::_,k+1,⟨a,b⟩=>Cs k b
 |[],_::_,_+1,z=>z.elim
 |_::_,[],_+1,z=>z.elim
theorem EX(r:List D)(m:Nat):items [] (r.drop m)=(items [] r).take (r.length-m):=by
 unfold items;rw[List.nil_append,List.nil_append,List.map_drop,List.reverse_drop,List.length_map]
theorem EY(r:List D)(m:Nat):items [] (r.take m)=(items [] r).drop (r.length-m):=by
 unfold items;rw[List.nil_append,List.nil_append,List.map_take,List.reverse_take,List.length_map]
theorem Gn{m:ag}{v:Value}(hv:bG W g m v):∀{l:List ag} {ws:List Value} (k:Nat),cc W g l ws->cc W g (setAt l k m) (ws.set k v)
 |[],[],_,_=>trivial
 |_::_,_::_,0,⟨_,b⟩=>⟨hv,b⟩
 |_::_,_::_,k+1,⟨a,b⟩=>⟨a,Gn hv k b⟩
 |[],_::_,_,z=>z.elim
 |_::_,[],_,z=>z.elim
theorem v5{α:Type}:∀(l:List α) (k:Nat) (x:α),setAt l k x=l.set k x
 |[],_,_=>rfl
 |_::_,0,_=>rfl
 |x::l,k+1,y=>congrArg (x::·) (v5 l k y)
theorem Ni{α:Type}(l:List α)(m:Nat)(y:α)(h:m<l.length):(l.set (l.length-1-m) y).reverse=l.reverse.set m y:=by
 apply List.ext_getElem
 ·simp
 ·intro i h1 h2;have hi:i<l.length:=by simpa using h1
  rw[List.getElem_reverse,List.getElem_set,List.getElem_set,List.getElem_reverse];simp only[List.length_set];by_cases e:m=i
  ·subst e;simp
  ·rw[if_neg e,if_neg (F1 h hi e)]
theorem HX(r:List D)(m:Nat)(y:D)(h:m<r.length):items [] (setAt r (r.length-1-m) y)=setAt (items [] r) m (.d y):=by
 unfold items;rw[List.nil_append,List.nil_append,v5,v5,List.map_set];have:=Ni (r.map ag.d) m (.d y) (by simpa using h);rw[List.length_map]at this;exact this
theorem EZ(H:iH W N G)(I:Inv W g σ s.heap)(C:aS W g env ê s.heap){x y m:ag}{v w u:Value}{K:St->Prop}(rx:bG W g x v)(ry:bG W g y w)(rm:bG W g m u)(h:Bn x y m σ K):
  wpAny (model W.prog W.w) A (setItem v w u) (Un W env ê g σ s K) NE s:=by
 refine bc fun hn=>?_;revert rx ry rm;refine tA h fun i h=>cN h fun z h=>?_
 induction z using PyData.casesOn with
 |str xx=>
  refine Ha h fun l e h=>cN h fun yy h rx ry rm=>hn ?_;refine bx ry fun t=>?_;have hb:=h.1;have h:=h.2;refine DI (k6 I e) fun p gK e1 o1 hd hr=>?_;refine bR (rx) fun p' e2 ja=>?_;subst ja;obtain rfl:=Option.some.inj (Option.some.inj (e1.symm.trans e2));refine wpAny_setItem_pairs (tM _ _ _ _) hd (fun h' k1 sb=>?_) (by rw[sZ hr];exact Nat.le_trans hb (by decide+kernel));have⟨I',P⟩:=I.MR (q:=p.1) (h':=h') (o:=.dict (i9 xx (.d yy) l)) e1 o1 (fun b o hb e=>sb.extBut b o hb e) (oz k1) ⟨o1,_,k1,qz rm hr (rE hd)⟩ (sX rfl (I.sb _ _ (iK.mp e)));exact⟨g,_,h,dO.step C I' P (fun _=>rfl) rfl rfl⟩
 |int j=>
  refine Jv h fun j h=>qK h fun c r e h=>?_;revert e;refine gW h fun h=>cN h fun yy h e rx ry rm=>hn ?_;refine aK ry fun t=>?_;obtain⟨⟨pY,hb⟩,h⟩:=h;refine nY (ly I rx (show σ.obj (.b i)=_ from e)) fun l ws k nR hg hr=>?_;subst nR;have e1:=d6 hr;rw[ig,List.length_nil,Nat.zero_add]at e1;refine yc hg (Int.natCast_nonneg j) (jn (aZ pY hb)) (by rw[List.size_toArray,e1];exact Int.ofNat_lt.mpr pY) ?_;refine⟨g,_,h,oy (us:=ws.set j u) I C rx (show σ.obj (.b i)=_ from e) rfl hg _ (by simp) ?_ (fun _ _=>rfl) (fun _ z=>nomatch z)⟩;refine az (HX r j yy pY) ?_;exact Gn rm j hr
 |_=>exact nf h
end
section
variable{W:Wd}{N:Nm}{G:Own}{A:Around}{s:Shared}{g cD:Gh}{σ ab:St}{env:Env}{ê:ak}{d n:Nat}{h h' jC:Heap}
noncomputable def E0(h:Heap)(a:Nat):Heap:=⟨(h.objs.toList.set a u6).toArray,h.life⟩
theorem ki(h:Heap)(a:Nat)(b:Nat):(E0 h a).get? b=if b=a then none else h.get? b:=by
 apply Option.ext;intro o';rw[Heap.get?_some_iff];show((h.objs.toList.set a u6).toArray[b]?=some o'/\_)↔_;refine az (List.getElem?_toArray) ?_;refine az (List.getElem?_set) ?_;by_cases hb:a=b
 ·subst hb;refine az (if_pos rfl) ?_;refine az (if_pos rfl) ?_;constructor
  ·rintro ⟨e,f⟩
   split at e
   ·rcases e with _|_;rcases f with _|_
   ·rcases e with _|_
  ·intro e;rcases e with _|_
 ·have Bq:¬b=a:=fun e=>hb e.symm;rw[if_neg hb,if_neg Bq,Heap.get?_some_iff,Array.getElem?_toList]
theorem Inv.drop(I:Inv W g σ h){a:Addr}(hO:g.O a=.no)(hB:g.B.get? a=none)(k:∀b o,b≠a->h.get? b=some o->h'.get? b=some o)(hn:∀b,h'.get? b=none->b≠a->h.get? b=none):Inv W g σ h':=by
 have lift:∀{mZ:Tag} {o:aL} {p:Addr×Addr},mZ≠.no->dq W g h mZ o p->dq W g h' mZ o p:=fun ne c=>
  c.rm (fun _ _ r=>r) id id (fun z o=>k _ o fun e=>ne (by rw[<-z,e,hO])) (fun z o=>k _ o fun e=>ne (by rw[<-z,e,hO]))
 refine⟨I.fR,fun b o e=>k _ _ (fun z=>?_) (I.gM b o e),I.lM,fun b e=>?_,I.qM,I.qf,fun i o e=>?_,I.cn,fun i o e=>?_,I.sb,I.DS,I.DT⟩
 ·rw[z,hB]at e;rcases e with _|_
 ·by_cases z:b=a
  ·rw[z];exact hO
  ·exact I.live _ (hn b e z)
 ·refine bR (I.cb i o e) fun p e1 c=>?_;exact⟨p,e1,lift (fun z=>nomatch z) c⟩
 ·refine i8 (I.ct i o e) fun a e1 c z=>?_;exact⟨a,e1,lift (fun z=>nomatch z) c,z⟩
theorem gc.drop(P:gc g σ h cD ab jC){a:Addr}(hn:h.get? a=none)(k:∀b o,b≠a->jC.get? b=some o->h'.get? b=some o):gc g σ h cD ab h':=by
 refine⟨P.bm,fun b o e f=>?_,fun b o e f=>?_,P.lb,P.lt,P.gm⟩
 ·refine nX (P.fo b o e f) fun x y z=>?_;exact⟨k _ _ (fun q=>by rw[q,hn]at e;rcases e with _|_) x,y,z⟩
 ·obtain⟨⟨o',x⟩,y⟩:=P.co b o e f;exact⟨⟨o',k _ _ (fun q=>by rw[q,hn]at e;rcases e with _|_) x⟩,y⟩
theorem aS.drop(C:aS W g env ê h){a:Addr}(hO:g.O a=.no)(k:∀b o,b≠a->h.get? b=some o->h'.get? b=some o):aS W g env ê h':=by
 have kl:∀o,h.get? env.locals=some o->h'.get? env.locals=some o:=fun o e=>k _ _ (fun q=>by have:=C.fr;rw[q,hO]at this;rcases this with _|_) e;have kc:∀x c,env.cells.lookup x=some c->∀o,h.get? c=some o->h'.get? c=some o:=fun x c q o e=>k _ _ (fun q'=>by have:=(C.cells x c q).1;rw[q',hO]at this;rcases this with _|_) e;refine⟨C.kind,C.fr,?_,fun x m e=>?_,fun x c e=>?_,C.inj,C.glob,C.all⟩
 ·obtain⟨m,hm⟩:=C.ns;exact⟨m,Ns.at hm kl⟩
 ·refine bR (C.vars x m e) fun v hh r=>?_;refine⟨v,?_,r⟩;rcases hh with⟨z,m,n,q⟩|⟨z,c,q,ic⟩
  ·exact .inl ⟨z,m,Ns.at n kl,q⟩
  ·exact .inr ⟨z,c,q,IsCell.at ic (kc _ _ q)⟩
 ·obtain⟨z,y,vo,ic⟩:=C.cells x c e;exact⟨z,y,vo,IsCell.at ic (kc _ _ e)⟩
theorem RM.refl:RM W g g:=fun _ _ r=>r
set_option tactic.hygienic true in
theorem Ct:∀{vs:List ag} {ds:List D},qL vs=some ds->vs=ds.map ag.d:=by
 intro l0
 induction l0 with
 |nil=>
  intro _ e;cases e;rfl
 |cons v vs ih=>
  intro ds e
  induction v using ag.casesOn with
  |d x=>
   unfold qL at e;split at e
   ·rename_i r q;cases e;rw[ih q];rfl
   ·cases e
  |_=>cases e
set_option tactic.hygienic true in
theorem yD(vs:List ag):∃c r,Jh vs=.list c r/\items c r=vs:=by
 unfold Jh;split
 ·rename_i ds e;exact⟨_,_,rfl,by rw[jJ,List.reverse_reverse,<-Ct e]⟩
 ·exact⟨_,_,rfl,by unfold items;rw[List.map_nil,List.append_nil,List.reverse_reverse]⟩
theorem jq:∀{l:List Nat} {i:Nat},pa l σ=some i->aq σ.base i=some none:=by
 intro l0
 induction l0 with
 |nil=>
  intro _ e;cases e
 |cons j l ih=>
  intro i e;unfold pa at e;split at e
  ·rename_i q;rcases e with _|_;exact q
  ·exact ih e
theorem Ad(I:Inv W g σ h)(C:aS W g env ê h){a:Addr}(hn:h.get? a=none)(k:∀b o,h.get? b=some o->h'.get? b=some o){o:aL}{ob:Obj}(hl:h'.get? a=some ob)(hf:ob.isFreed=false)
  (hc:∀g',RM W g g'->∀tag,g'.O a=tag->dq W g' h' tag o (a,a)) (hi:∀k l,o≠.inst k l) {p:Place} {K:KV} (q:pL p o ê σ K):
  ∃m g' aF,K m aF/\bG W g' m (.ref a)/\Inv W g' aF h'/\aS W g' env ê h'/\gc g σ h g' aF h':=by
 refine bc fun bf=>?_;have fin:∀{m g' aF},K m aF->bG W g' m (.ref a)->Inv W g' aF h'->aS W g' env ê h'->gc g σ h g' aF h'->False:=fun a b c d e=>bf ⟨_,_,_,a,b,c,d,e⟩;clear bf
 induction p using Place.casesOn with
 |fz=>
  clear hi;revert hc;refine Tp q fun c r q=>gW q fun q hc=>?_;obtain⟨_,ws,n,hg,hr⟩:=hc g RM.refl _ rfl;have hg:h'.get? a=some (eu ws n):=hg;rw[jJ]at hr;obtain⟨as,ra⟩:=gP hr;have⟨I',P⟩:=I.MP k hn hg rfl;have hB:g.B.get? a=none:=by
   cases z:g.B.get? a with
   |none=>rfl
   |some o=>rw[I.gM _ _ z]at hn;rcases hn with _|_
  exact fin q ⟨_,.list (fS rfl) rfl rfl (ReadsAll.keeps (fh rfl hB) (by simpa using ra))⟩ I' (C.post P fun _=>rfl) P
 |A6=>
  have q:Tv o fun o=>K (.t σ.temps.length) {σ with temps:=σ.temps++[o]}:=q
  induction o using aL.casesOn with
  |list c r=>
   refine uW q fun hv q=>?_;obtain⟨g',rm,e,I',P⟩:=I.A6 (o:=.list c r) k hn ⟨_,hl⟩ (fun g' rm z=>hc g' rm _ z) (fun _ _ z=>nomatch z) (fun c r z=>by rcases z with _|_;exact hv) (fun _ z=>nomatch z);exact fin q ⟨a,e,rfl⟩ I' (C.post P fun _=>rfl) P
  |dict l=>
   refine lL q fun l' hv q=>?_;obtain⟨g',rm,e,I',P⟩:=I.A6 (o:=.dict l) k hn ⟨_,hl⟩ (fun g' rm z=>hc g' rm _ z) (fun _ _ z=>nomatch z) (fun c r z=>nomatch z) (fun l z=>by rcases z with _|_;exact⟨_,hv⟩);exact fin q ⟨a,e,rfl⟩ I' (C.post P fun _=>rfl) P
  |_=>exact nf q
 |base l=>
  refine lL q fun i Cu q=>uW q fun hT q=>?_;cases hw:A8 i with
  |false=>
   rw[hw]at q;refine yZ (I.nU (o:=o) (p:=(a,a)) (γ:=σ.gen) k (jq Cu) hn hn ⟨_,hl⟩ ⟨_,hl⟩ (fun g' rm z _=>hc g' rm _ z) hT (Nat.le_refl _)) fun g' rm e I' P=>?_;exact fin q ⟨_,e,rfl⟩ I' (C.post P fun _=>rfl) P
  |true=>
   rw[hw]at q;refine Bi q fun hv q=>?_;refine yZ (I.nU (o:=o) (p:=(a,a)) (γ:=σ.gen+1) k (jq Cu) hn hn ⟨_,hl⟩ ⟨_,hl⟩ (fun g' rm z _=>hc g' rm _ z) hT (Nat.le_succ _)) fun g' rm e I' P=>?_;exact fin q ⟨_,e,rfl⟩ I' (C.post P (fun z=>by rw[hv]at z;rcases z with _|_)) P
theorem Nj(I:Inv W g σ s.heap)(C:aS W g env ê s.heap){vs:List ag}{ws:List Value}(r:cc W g vs ws){p:Place}{K:KV}(q:pL p (Jh vs) ê σ K):
  aR W env ê g σ s K (.ref s.heap.objs.size) {s with heap:=s.heap.push {cls:=.type "list",data:=.seq ws.toArray}}:=by
 refine nW (yD vs) fun c r' e ei=>?_;rw[e]at q;have hg:(s.heap.push {cls:=.type "list",data:=.seq ws.toArray}).get? s.heap.objs.size=some (eu ws 0):=Heap.get?_push_size _ rfl;refine bc fun bf=>?_;obtain⟨m,g',aF,hk,rm,I',C',P⟩:=Ad (o:=.list c r') I C (cY _) (fun b o e=>Heap.get?_push_of_some _ e) hg rfl (fun g' rm tag z=>⟨z,ws,0,hg,by rw[ei];exact r.rm rm⟩) (fun _ _ z=>nomatch z) q;refine bf ?_;exact⟨m,g',aF,hk,rm,I',C',P,rfl,rfl⟩
theorem yE(I:Inv W g σ s.heap)(C:aS W g env ê s.heap){x:ag}{v:Value}{K:KV}(rx:bG W g x v)(q:fz x σ K):
  ∃m g' aF,K m aF/\bG W g' m v/\j9 m=true/\dO W env ê g σ s g' aF s:=by
 induction x using ag.casesOn with
 |t i=>
  refine bc fun hn=>?_;refine lL q fun o e q=>?_
  induction o using aL.casesOn with
  |list c r=>
   revert e;refine gW q fun q e=>hn ?_;refine i8 (I.ct i _ e) fun a e1 c _=>?_;refine bR (rx) fun a' e2 ja=>?_;subst ja;obtain rfl:=Option.some.inj (e1.symm.trans e2);refine Xb (I.fzt e e1) fun g' rm rd _ _ I' P=>?_;exact⟨_,g',_,q,rd,rfl,dO.step C I' P (fun _=>rfl) rfl rfl⟩
  |yk x=>
   refine hn ?_;refine i8 (I.ct i _ e) fun a e1 c _=>?_;refine bR (rx) fun a' e2 ja=>?_;subst ja;obtain rfl:=Option.some.inj (e1.symm.trans e2);exact⟨_,g,σ,q,c,rfl,dO.refl I C⟩
  |_=>exact nf q
 |_=>exact⟨_,g,σ,q,rx,rfl,dO.refl I C⟩
theorem rG(I:Inv W g σ h){x:ag}{v:Value}(rx:bG W g x v):bG W g (res σ x) v:=by
 induction x using ag.casesOn with
 |t i=>
  cases e:aq σ.temps i with
  |none=>unfold res;dsimp only;rw[e];exact rx
  |some o=>
   induction o using aL.casesOn with
   |yk y=>
    unfold res;dsimp only;rw[e];refine i8 (I.ct i _ e) fun a e1 c _=>?_;refine bR (rx) fun a' e2 ja=>?_;subst ja;obtain rfl:=Option.some.inj (e1.symm.trans e2);exact c
   |_=>unfold res;dsimp only;rw[e];exact rx
 |_=>exact rx
end
section
variable{W:Wd}{N:Nm}{G:Own}{A:Around}{s:Shared}{g cD:Gh}{σ ab:St}{env:Env}{ê:ak}{d n:Nat}{h h' jC:Heap}
theorem kj{B:Heap}{a b:Addr}{ob:Obj}(hf:ob.isFreed=false)(hb:b≠a):(jD B a ob).get? b=B.get? b:=by
 rw[gv _ _ _ hf,if_neg hb]
theorem QO(I:Inv W g σ s.heap)(C:aS W g env ê s.heap){x:ag}{v:Value}{K:KV}(rx:bG W g x v)(q:P9 x ê σ K):
  aR W env ê g σ s K v s:=by
 refine bc fun bf=>?_;revert rx;refine tA q fun i q=>uW q fun hv q=>Bi q fun hh q=>uW q fun Mx q=>lL q fun o e q=>?_
 ··have WK:∀{p:Addr},g.O p=.b i->g.B.get? p=none:=fun{p} e=>by
    cases z:g.B.get? p with
    |none=>rfl
    |some o=>rw[I.lM _ _ z]at e;rcases e with _|_
   induction o using aL.casesOn with
   |list c r=>
    revert e;refine gW q fun q e rx=>bf ?_;refine lW (ie I e) fun p ws k e1 o1 hg hr=>?_;refine bR (rx) fun p' e2 ja=>?_;subst ja;obtain rfl:=Option.some.inj (Option.some.inj (e1.symm.trans e2));rw[jJ]at hr;obtain⟨as,ra⟩:=gP hr;have⟨I',P⟩:=I.fzb (qa:=p.1) (qb:=p.1) (B':=jD g.B p.1 (eu ws k)) hv (iK.mp e) e1 Mx (fh rfl (WK o1)) (fun b hb _=>kj rfl hb) (fun b ob z=>by
     rw[gv _ _ _ rfl]at z;by_cases hb:b=p.1
     ·rw[if_pos hb]at z;rcases z with _|_;rw[hb];exact hg
     ·rw[if_neg hb]at z;exact I.gM _ _ z) o1 o1
    exact⟨_,_,_,q,⟨_,.list (fS rfl) rfl rfl (ReadsAll.keeps (fh rfl (WK o1)) (by simpa using ra))⟩,dO.step C I' P (fun z=>by rw[hh]at z;rcases z with _|_) rfl rfl⟩
   |inst k l=>
    refine lL q fun l' e' q rx=>bf ?_
    ·obtain⟨p,e1,o1,o2,ne,h1,es,m,h2,hf⟩:=I.cb i _ (iK.mp e);have o1:g.O p.1=.b i:=o1;have o2:g.O p.2=.b i:=o2;have h1:s.heap.get? p.1=some (instObj (W.ca k) p.2):=h1;have h2:s.heap.get? p.2=some (dictOf es m):=h2;refine bR (rx) fun p' e2 ja=>?_;subst ja;obtain rfl:=Option.some.inj (Option.some.inj (e1.symm.trans e2));have x1:∀b ob,g.B.get? b=some ob->(jD g.B p.1 (instObj (W.ca k) p.2)).get? b=some ob:=fh rfl (WK o1);have n2:(jD g.B p.1 (instObj (W.ca k) p.2)).get? p.2=none:=by rw[kj rfl (Ne.symm ne)];exact WK o2
     have x2:∀b ob,g.B.get? b=some ob->(jD (jD g.B p.1 (instObj (W.ca k) p.2)) p.2 (dictOf es m)).get? b=some ob:=fun b ob z=>fh rfl n2 b ob (x1 b ob z);have⟨I',P⟩:=I.fzb (qa:=p.1) (qb:=p.2) (B':=jD (jD g.B p.1 (instObj (W.ca k) p.2)) p.2 (dictOf es m)) hv (iK.mp e) e1 Mx x2 (fun b hb Bq=>by rw[kj rfl Bq,kj rfl hb]) (fun b ob z=>by
      rw[gv _ _ _ rfl]at z;by_cases hb:b=p.2
      ·rw[if_pos hb]at z;rcases z with _|_;rw[hb];exact h2
      ·rw[if_neg hb,gv _ _ _ rfl]at z;by_cases hb:b=p.1
       ·rw[if_pos hb]at z;rcases z with _|_;rw[hb];exact h1
       ·rw[if_neg hb]at z;exact I.gM _ _ z) o1 o2
     refine⟨_,_,_,q,⟨p.1,p.2,es,m,rfl,?_,?_,?_⟩,dO.step C I' P (fun z=>by rw[hh]at z;rcases z with _|_) rfl rfl⟩
     ·show(jD _ _ _).get? _=_;rw[kj rfl ne];exact fS rfl
     ·exact fS rfl
     ·exact(MT e' hf).mono x2
   |_=>exact nf q
theorem oA:∀{l:List Str},distinct l=true->l.Nodup:=by
 intro l0
 induction l0 with
 |nil=>
  intro _;exact List.nodup_nil
 |cons x l ih=>
  intro h;have h:(l.all (fun y=> !eZ x y)&&distinct l)=true:=h;rw[Bool.and_eq_true,List.all_eq_true]at h;refine List.nodup_cons.mpr ⟨fun hm=>?_,ih h.2⟩;have:=h.1 x hm;rw[Bp]at this;rcases this with _|_
noncomputable def rH(vs:List (Value×Value)):List Str->List Value->Prop
 |[],[]=>vs=[]
 |k::ks,w::ws=>∃t rest,vs=(.str k t,w)::rest/\rH rest ks ws
 |_,_=>False
theorem tN{prog:Program}{w:World}:∀{ks:List Str} {ws:List Value} {vs:List (Value×Value)},rH vs ks ws->Carries (strKind prog w) vs (ks.zip ws)/\ks.length=ws.length
 |[],[],vs,h=>by rcases h with _|_;exact⟨trivial,rfl⟩
 |k::ks,w'::ws,vs,⟨t,rest,e,r⟩=>by
  rcases e with _|_;obtain⟨a,b⟩:=tN (prog:=prog) (w:=w) r;exact⟨⟨tM _ _ _ _,rfl,a⟩,congrArg (·+1) b⟩
 |[],_::_,_,h=>h.elim
 |_::_,[],_,h=>h.elim
theorem Gp:∀{ks:List Str} {ms:List ag} {ws:List Value},cc W g ms ws->ks.length=ws.length->gd W g (ks.zip ms) (ks.zip ws)
 |[],_,_,_,_=>trivial
 |k::ks,m::ms,w::ws,⟨a,b⟩,e=>⟨rfl,a,Gp b (Nat.succ.inj e)⟩
 |_::_,[],[],_,e=>by cases e
 |_::_,[],_::_,z,_=>z.elim
 |_::_,_::_,[],z,_=>z.elim
theorem Kq:∀{ks:List Str} {ws:List Value},ks.length=ws.length->(ks.zip ws).map (·.1)=ks:=by
 intro l0
 induction l0 with
 |nil=>
  intro _ _;exact rfl
 |cons k ks ih=>
  intro l1;rcases l1 with _|⟨w,ws⟩
  ·intro e;rcases e with _|_
  ·intro e;exact congrArg (k::·) (ih (Nat.succ.inj e))
noncomputable abbrev jR:Obj:={cls:=.type "dict",data:=.dict #[]}
theorem v7{prog:Program}{w:World}{a:Addr}(e:h.get? a=some jR):Heap.DictOf (strKind prog w) h a []:=
 ⟨_,#[],_,e,⟨rfl,rfl,rfl⟩,rfl,(fun x hx=>by simp at hx),.nil,List.nodup_nil⟩
theorem Nk(I:Inv W g σ s.heap)(C:aS W g env ê s.heap){bQ:Shared}(nx:dO W env ê g σ {s with heap:=s.heap.push jR} cD ab bQ){ks:List Str}{ms:List ag}{ws:List Value}{vs:List (Value×Value)}
  (r:cc W cD ms ws) (hp:rH vs ks ws) (hk:distinct ks=true) (hlen:ks.length<=100) {p:Place} {K:KV} (hv:iM ê=true->ab.gen=σ.gen) (q:pL p (.dict (ks.zip ms)) ê ab K):
  wpAny (model W.prog W.w) A (storeAll s.heap.objs.size vs) (fun _ pR=>aR W env ê g σ s K (.ref s.heap.objs.size) pR) NE bQ:=by
 have hn:=cY s.heap;have hO:g.O s.heap.objs.size=.no:=I.live _ hn;refine bc fun bf=>?_;obtain⟨e1,eO,eB⟩:=nx.post.fo s.heap.objs.size jR (Heap.get?_push_size _ rfl) (by rw[hO];trivial);have hB:cD.B.get? s.heap.objs.size=none:=eB.trans (jk I hn);obtain⟨hc,hl⟩:=tN (prog:=W.prog) (w:=W.w) hp;refine bf ?_;unfold storeAll;refine wpAny_storeAll (knd:=strKind W.prog W.w) vs (ks.zip ws) [] bQ _ hc (v7 e1) ?_ (fun h' hd sb=>?_)
 ·rw[List.length_nil,Nat.zero_add,List.length_zip];exact Nat.le_trans (Nat.min_le_left _ _) (Nat.le_trans hlen (by decide+kernel))
 ·rw[merged_nil_of_nodup _ (by rw[Kq hl];exact oA hk)]at hd;have kd:∀b o,b≠s.heap.objs.size->bQ.heap.get? b=some o->(E0 bQ.heap s.heap.objs.size).get? b=some o:=fun b o hb e=>by rw[ki,if_neg hb];exact e
  have I1:Inv W cD ab (E0 bQ.heap s.heap.objs.size):=nx.inv.drop (eO.trans hO) hB kd (fun b e hb=>by rw[ki,if_neg hb]at e;exact e);have C1:=nx.bJ.drop (eO.trans hO) kd;have P0:gc g σ s.heap g σ (s.heap.push jR):=(I.ke (fun b o e=>Heap.get?_push_of_some _ e)).2;have P1:=(P0.trans nx.post).drop hn kd;refine bc fun bf=>?_;obtain⟨o',xw⟩:=oz hd;have hf:o'.isFreed=false:=(Heap.get?_some_iff.mp xw).2;obtain⟨m,g',aF,WL,rm,I',C',P⟩:=Ad (o:=.dict (ks.zip ms)) (h':=h') I1 C1 (by rw[ki,if_pos rfl]) (fun b o e=>by
   rw[ki]at e;by_cases hb:b=s.heap.objs.size
   ·rw[if_pos hb]at e;rcases e with _|_
   ·rw[if_neg hb]at e;exact sb.extBut b o hb e) xw hf (fun g' rm tag z=>⟨z,_,hd,(Gp r hl).rm rm⟩) (fun _ _ z=>nomatch z) q
  refine bf ?_;exact⟨m,g',aF,WL,rm,I',C',P1.trans P,nx.gens,nx.os⟩
end
section
variable{W:Wd}{N:Nm}{G:Own}{A:Around}{s:Shared}{g:Gh}{σ:St}{env:Env}{ê:ak}{d n aJ:Nat}{C:Cl}{Q:KV}
theorem mK (H:iH W N G) (I:Inv W g σ s.heap) (Ce:aS W g env ê s.heap) {x:Str} {v:Value} {p:Pos} {R:Value->Shared->Prop} (hk:gQ env.scope.names x=true) (hd:(x==("__debug__" :Str))=false) (hv:W.mg x=some v) (q:R v s):
  wpAny (model W.prog W.w) A (eval (.Name x p) env) R NE s:=by
 refine Name_function_global Ce.kind ?_ (loadGlobal_global (mg:=W.mg) ?_ hv q) hd
 ·rw[f7 rfl];unfold gQ at hk;split at hk
  ·rename_i e;exact e
  ·rcases hk with _|_
 ·rw[Ce.glob.1];exact Ns.at H.g fun o e=>I.gM _ _ (I.fR _ _ e)
theorem rI (H:iH W N G) (I:Inv W g σ s.heap) (Ce:aS W g env ê s.heap) {x:Str} {v:Value} {p:Pos} {R:Value->Shared->Prop} (hk:gQ env.scope.names x=true) (hd:(x==("__debug__" :Str))=false) (hn:W.mg x=none) (hv:W.mb x=some v) (q:R v s):
  wpAny (model W.prog W.w) A (eval (.Name x p) env) R NE s:=by
 refine Name_function_global Ce.kind ?_ (loadGlobal_builtin (mg:=W.mg) (mb:=W.mb) ?_ hn ?_ hv q) hd
 ·rw[f7 rfl];unfold gQ at hk;split at hk
  ·rename_i e;exact e
  ·rcases hk with _|_
 ·rw[Ce.glob.1];exact Ns.at H.g fun o e=>I.gM _ _ (I.fR _ _ e)
 ·rw[Ce.glob.2];exact Ns.at H.b fun o e=>I.gM _ _ (I.fR _ _ e)
theorem e_c(I:Inv W g σ s.heap)(Ce:aS W g env ê s.heap){v:D}{x:Expr}(hc:aH N (aJ+1) env.scope.names (.c v) x=true)(q:Q (.d v) σ):wpAny (model W.prog W.w) A (eval x env) (aR W env ê g σ s Q) NE s:=by
 have same:∀tk,dO W env ê g σ s g σ {s with toks:=tk}:=fun tk=>dO.ke I Ce (fun _ _ e=>e) rfl rfl;refine sz hc fun c k p hc=>?_;exact MX (motive:=fun c v=>Q (.d v) σ->wpAny (model W.prog W.w) A (eval (.Constant c k p) env) (aR W env ê g σ s Q) NE s) hc (fun q=>wpAny_Constant_none ⟨_,g,σ,q,mH,dO.refl I Ce⟩)
  (fun _ q=>wpAny_Constant_bool ⟨_,g,σ,q,rz _,dO.refl I Ce⟩) (fun _ q=>wpAny_Constant_int ⟨_,g,σ,q,ib _ _,same _⟩) (fun _ q=>wpAny_Constant_str ⟨_,g,σ,q,nz _ _,same _⟩) q
theorem Uw(I:Inv W g σ s.heap)(Ce:aS W g env ê s.heap){i:Nat}{x:Expr}(hc:aH N (aJ+1) env.scope.names (.neg i) x=true)(q:Q (.d (.int (.negSucc i))) σ):wpAny (model W.prog W.w) A (eval x env) (aR W env ê g σ s Q) NE s:=by
 have same:∀tk,dO W env ê g σ s g σ {s with toks:=tk}:=fun tk=>dO.ke I Ce (fun _ _ e=>e) rfl rfl;refine Qn hc fun o y p hc=>dR hc fun ho h1=>sz h1 fun c _ _ h1=>MW h1 fun j h1=>?_;rcases o with _|_<;>first
 |exact ff ho
 |have e:=of_decide_eq_true h1
  subst e;refine wpAny_UnaryOp (wpAny_Constant_int (neg_int ⟨_,g,σ,q,?_,same _⟩));have: -((i:Int)+1)=.negSucc i:=rfl;refine az (this) ?_;exact ib _ _
theorem Ux(I:Inv W g σ s.heap)(Ce:aS W g env ê s.heap){y:Str}{x:Expr}(hc:aH N (aJ+1) env.scope.names (.var y) x=true)(q:oS (dE y ê) fun v=>Q (res σ v) σ):wpAny (model W.prog W.w) A (eval x env) (aR W env ê g σ s Q) NE s:=by
 refine dU hc fun z p hc=>dR hc fun h1 h2=>?_;refine nZ (cX h1) fun ui hd _ xu=>?_;subst ui;refine lL q fun m e q=>?_;refine bR (Ce.vars _ _ e) fun v hh r=>?_;exact lu (h:=s.heap) Ce.kind hh hd ⟨_,g,σ,q,rG I r,dO.refl I Ce⟩ (.inl xu)
theorem Uy(H:iH W N G)(I:Inv W g σ s.heap)(Ce:aS W g env ê s.heap){f:Nat}{x:Expr}(hc:aH N (aJ+1) env.scope.names (.oY f) x=true)(q:Q (.fn f) σ):wpAny (model W.prog W.w) A (eval x env) (aR W env ê g σ s Q) NE s:=by
 refine dU hc fun z p hc=>dR hc fun h1 h2=>?_;refine nZ (cX h1) fun ui hd he xu=>?_;subst ui;exact mK H I Ce h2 hd (H.fn f he) ⟨_,g,σ,q,rfl,dO.refl I Ce⟩
theorem Uz(H:iH W N G)(I:Inv W g σ s.heap)(Ce:aS W g env ê s.heap){k:Nat}{x:Expr}(hc:aH N (aJ+1) env.scope.names (.OQ k) x=true)(q:ev G C (n+1) (.OQ k) ê σ Q):wpAny (model W.prog W.w) A (eval x env) (aR W env ê g σ s Q) NE s:=by
 refine dU hc fun z p hc=>dR hc fun h1 h2=>?_
 induction k using Nat.casesAuxOn with
 |zero=>
  refine nZ (cX h1) fun e hd he xu=>?_;subst e;exact mK H I Ce h2 hd H.tab ⟨.g,g,σ,q,rfl,dO.refl I Ce⟩
 |succ k=>
  refine nZ (cX h1) fun e hd he xu=>?_;subst e;refine bR (H.tup) fun v e1 r=>?_;exact mK H I Ce h2 hd e1 ⟨.d G.tup,g,σ,q,dP.mono (fun a o e=>I.fR a o e) r,dO.refl I Ce⟩
theorem QP(H:iH W N G)(IH:eh W d (ev G C n) (aH N aJ))(a:iu d 2 A)(I:Inv W g σ s.heap)(Ce:aS W g env ê s.heap){o:E}{nm:Str}{x:Expr}(hc:aH N (aJ+1) env.scope.names (.attr o nm) x=true)
  (q:ev G C n o ê σ fun v ab=>Bj v nm ab fun w=>Q w ab):wpAny (model W.prog W.w) A (eval x env) (aR W env ê g σ s Q) NE s:=by
 refine ll hc fun v b p hc=>lY hc fun h1 h2 h3 h4=>?_;have e:=bj.mp h2;subst e;refine Attribute_any_ (aR.go (IH o v env ê g σ s _ A h4 a I Ce q) fun m w g' aF s' q r nx=>?_) ?_
 ·exact aR.on nx (Gm H nx.inv nx.bJ h3 r q) fun m oB ⟨e,k⟩=>e▸k
 ·rcases v with _|_<;>first|rfl|rcases h1 with _|_
theorem UA(H:iH W N G)(IH:eh W d (ev G C n) (aH N aJ))(a:iu d 2 A)(I:Inv W g σ s.heap)(Ce:aS W g env ê s.heap){o i:E}{x:Expr}(hc:aH N (aJ+1) env.scope.names (.sub o i) x=true)
  (q:ev G C n o ê σ fun v ab=>ev G C n i ê ab fun w au=>xC v ab au (uX G.tab v w au fun x=>Q x au)):wpAny (model W.prog W.w) A (eval x env) (aR W env ê g σ s Q) NE s:=by
 refine pb hc fun v w p hc=>iy hc fun h1 h2 h3=>?_;refine Subscript_ (aR.go (IH o v env ê g σ s _ A h2 a I Ce q) fun m u g' aF s' q r nx=>?_);refine aR.go (IH i w env ê g' aF s' _ A h3 a nx.inv nx.bJ q) fun m' u' Pb oB Pc q r' lK=>?_;obtain⟨hv,q⟩:=fZ q;exact aR.on (nx.trans lK) (QF H a lK.inv lK.bJ h1 (lK.rep r hv) r' q) fun m oB ⟨e,k⟩=>e▸k
theorem UB(H:iH W N G)(IH:eh W d (ev G C n) (aH N aJ))(a:iu d 2 A)(I:Inv W g σ s.heap)(Ce:aS W g env ê s.heap){op:Op}{l r:E}{x:Expr}(hc:aH N (aJ+1) env.scope.names (.bin op l r) x=true)
  (q:ev G C n l ê σ fun v ab=>ev G C n r ê ab fun w au=>jI v fun x=>jI w fun y=>MM op x y fun z=>Q (.d z) au):wpAny (model W.prog W.w) A (eval x env) (aR W env ê g σ s Q) NE s:=by
 refine F5 hc fun v o w p hc=>iy hc fun h1 h2 h3=>?_;refine wpAny_BinOp (aR.go (IH l v env ê g σ s _ A h2 a I Ce q) fun m u g' aF s' q r1 nx=>?_);refine aR.go (IH r w env ê g' aF s' _ A h3 a nx.inv nx.bJ q) fun m' u' Pb oB Pc q r' lK=>?_;refine bc fun hn=>?_;revert r1 r';refine cN q fun x q=>cN q fun y q r1 r'=>hn ?_;exact aR.on (nx.trans lK) (QC lK.inv lK.bJ h1 (lK.rep r1 (fun z=>nomatch z)) r' q) fun m oB ⟨e,z,e',k⟩=>by rw[e,e'];exact k
theorem Gq{op:CmpOp}{w:Expr}(h:(!isSet w)=true):behindInMarks op w=false:=by
 rcases w with _|_<;>first|rfl|rcases h with _|_
theorem UC(H:iH W N G)(IH:eh W d (ev G C n) (aH N aJ))(a:iu d 2 A)(I:Inv W g σ s.heap)(Ce:aS W g env ê s.heap){op:CO}{l r:E}{x:Expr}(hc:aH N (aJ+1) env.scope.names (.cmp op l r) x=true)
  (q:ev G C n l ê σ fun v ab=>ev G C n r ê ab fun w au=>xC v ab au (MN G.tab op v w au fun b=>Q (.d (.bool b)) au)):wpAny (model W.prog W.w) A (eval x env) (aR W env ê g σ s Q) NE s:=by
 refine F6 hc fun v os ws p hc=>jf hc fun o hc=>jf hc fun w hc=>lY hc fun h1 h2 h3 h4=>?_;refine wpAny_Compare1 (aR.go (IH l v env ê g σ s _ A h2 a I Ce q) fun m u g' aF s' q r1 nx=>?_) (Gq h4);refine aR.go (IH r w env ê g' aF s' _ A h3 a nx.inv nx.bJ q) fun m' u' Pb oB Pc q r' lK=>?_;obtain⟨hv,q⟩:=fZ q;exact aR.on (nx.trans lK) (Ki H a lK.inv lK.bJ h1 (lK.rep r1 hv) r' q) fun m oB ⟨e,z,e',k⟩=>by rw[e,e'];exact k
theorem QQ(H:iH W N G)(IH:eh W d (ev G C n) (aH N aJ))(a:iu d 2 A)(I:Inv W g σ s.heap)(Ce:aS W g env ê s.heap){l r:E}{x:Expr}(hc:aH N (aJ+1) env.scope.names (.cx l r) x=true)
  (q:ev G C n l ê σ fun v ab=>uZ v fun b=>Sy b (ev G C n r ê ab Q) (Q (.d (.bool false)) ab)):wpAny (model W.prog W.w) A (eval x env) (aR W env ê g σ s Q) NE s:=by
 refine F8 hc fun v w p hc=>dR hc fun h2 h3=>?_;refine wpAny_And2 (aR.go (IH l v env ê g σ s _ A h2 a I Ce q) fun m u g' aF s' q r1 nx=>?_);refine bc fun hn=>?_;revert r1;refine cN q fun x q=>PZ q fun b q r1=>hn ?_
 ·refine jl r1 ?_;refine wpAny_truthy_bool ?_
  induction b using Bool.casesOn with
  |true=>exact aR.on nx (IH r w env ê g' aF s' _ A h3 a nx.inv nx.bJ q) fun _ _ k=>k
  |false=>exact⟨_,g',aF,q,rz _,nx⟩
theorem UD(H:iH W N G)(IH:eh W d (ev G C n) (aH N aJ))(a:iu d 2 A)(I:Inv W g σ s.heap)(Ce:aS W g env ê s.heap){l r:E}{x:Expr}(hc:aH N (aJ+1) env.scope.names (.A7 l r) x=true)
  (q:ev G C n l ê σ fun v ab=>uZ v fun b=>Sy b (Q (.d (.bool true)) ab) (ev G C n r ê ab Q)):wpAny (model W.prog W.w) A (eval x env) (aR W env ê g σ s Q) NE s:=by
 refine JP hc fun v w p hc=>dR hc fun h2 h3=>?_;refine wpAny_Or2 (aR.go (IH l v env ê g σ s _ A h2 a I Ce q) fun m u g' aF s' q r1 nx=>?_);refine bc fun hn=>?_;revert r1;refine cN q fun x q=>PZ q fun b q r1=>hn ?_
 ·refine jl r1 ?_;refine wpAny_truthy_bool ?_
  induction b using Bool.casesOn with
  |false=>exact aR.on nx (IH r w env ê g' aF s' _ A h3 a nx.inv nx.bJ q) fun _ _ k=>k
  |true=>exact⟨_,g',aF,q,rz _,nx⟩
end
section
variable{W:Wd}{N:Nm}{G:Own}{A:Around}{s:Shared}{g:Gh}{σ:St}{env:Env}{ê:ak}{d n aJ:Nat}{C:Cl}{Q:KV}
theorem uh.go{M:Model}{Q:Bool->St->Prop}{R:Bool->Shared->Prop}{t:Sem Bool}(h:wpAny M A t (uh W env ê g σ s Q) NE s)
  (k:∀b g' aF s',Q b aF->dO W env ê g σ s g' aF s'->R b s'):wpAny M A t R NE s:=
 cQ h fun v s' ⟨g',aF,q,n⟩=>k v g' aF s' q n
theorem E1{v:ag}{K:Bool->Prop}(h:uZ v K):∃b,v=.d (.bool b)/\K b:=by
 exact cN h fun x h=>PZ h fun b h=>⟨b,rfl,h⟩
theorem Ae(H:iH W N G)(IH:∀m,m<=n->eh W d (ev G C n) (aH N m))(a:iu d 2 A):∀(k:Nat) (e:E) (x:Expr) (g:Gh) (σ:St) (s:Shared) (Q:Bool->St->Prop) (m:Nat),m<=n->aH N m env.scope.names e x=true->Inv W g σ s.heap->aS W g env ê s.heap->
  DR (ev G C n) G.tab k e ê σ Q->wpAny (model W.prog W.w) A (isTrue x env (eval x env)) (uh W env ê g σ s Q) NE s:=by
 intro k
 induction k with
 |zero=>intro e x g σ s Q m hm hc I Ce q;exact q.elim
 |succ k ih=>
  intro e x g σ s Q m hm hc I Ce q;have val:∀e',ev G C n e' ê σ (fun v ab=>uZ v fun b=>Q b ab)->aH N m env.scope.names e' x=true->(isTrue x env (eval x env)=(do let v <-eval x env;standAt x.pos;holding [v] (truthy v)))->
    wpAny (model W.prog W.w) A (isTrue x env (eval x env)) (uh W env ê g σ s Q) NE s:=fun e' q hc he=>by
   refine wpAny_isTrue_value (aR.go (IH m hm e' x env ê g σ s _ A hc a I Ce q) fun m u g' aF s' q r nx=>?_) he;refine bR (E1 q) fun b Kr q=>?_;subst Kr;refine jl r ?_;exact wpAny_truthy_bool ⟨g',aF,q,nx⟩
  induction e using E.casesOn with
  |cx l r=>
   induction m using Nat.casesAuxOn with
   |zero=>cases hc
   |succ m=>
    refine F8 hc fun v w p hc=>dR hc fun h2 h3=>?_;refine wpAny_isTrue_BoolOp (wpAny_allTrue_And_cons (uh.go (ih l v g σ s _ m (Nat.le_of_succ_le hm) h2 I Ce q) fun b g' aF s' q nx=>?_))
    induction b using Bool.casesOn with
    |true=>
     refine wpAny_allTrue_And_cons (uh.go (ih r w g' aF s' _ m (Nat.le_of_succ_le hm) h3 nx.inv nx.bJ q) fun b Pb oB Pc q lK=>?_)
     induction b using Bool.casesOn with
     |true=>exact wpAny_allTrue_And_nil ⟨_,_,q,nx.trans lK⟩
     |false=>exact⟨_,_,q,nx.trans lK⟩
    |false=>exact⟨_,_,q,nx⟩
  |A7 l r=>
   induction m using Nat.casesAuxOn with
   |zero=>cases hc
   |succ m=>
    refine JP hc fun v w p hc=>dR hc fun h2 h3=>?_;refine wpAny_isTrue_BoolOp (wpAny_allTrue_Or_cons (uh.go (ih l v g σ s _ m (Nat.le_of_succ_le hm) h2 I Ce q) fun b g' aF s' q nx=>?_))
    induction b using Bool.casesOn with
    |false=>
     refine wpAny_allTrue_Or_cons (uh.go (ih r w g' aF s' _ m (Nat.le_of_succ_le hm) h3 nx.inv nx.bJ q) fun b Pb oB Pc q lK=>?_)
     induction b using Bool.casesOn with
     |false=>exact wpAny_allTrue_Or_nil ⟨_,_,q,nx.trans lK⟩
     |true=>exact⟨_,_,q,nx.trans lK⟩
    |true=>exact⟨_,_,q,nx⟩
  |cmp op l r=>
   induction m using Nat.casesAuxOn with
   |zero=>cases hc
   |succ m=>
    refine F6 hc fun v os ws p hc=>jf hc fun o hc=>jf hc fun w hc=>lY hc fun h1 h2 h3 h4=>?_;have Hf:=Nat.le_of_succ_le hm;refine wpAny_isTrue_Compare1 (aR.go (IH m Hf l v env ê g σ s _ A h2 a I Ce q) fun m' u g' aF s' q r1 nx=>?_) (Gq h4);refine aR.go (IH m Hf r w env ê g' aF s' _ A h3 a nx.inv nx.bJ q) fun m' u' Pb oB Pc q r' lK=>?_;have Ks:=fZ q;have hv:=Ks.1;have q:=Ks.2;clear Ks;refine aR.go (Ki H a lK.inv lK.bJ h1 (lK.rep r1 hv) r' q) fun m' u' g3 nS s3 ⟨e,b,e',k⟩ r3 kZ=>?_;subst e e';refine jl r3 ?_;exact wpAny_truthy_bool ⟨_,_,k,(nx.trans lK).trans kZ⟩
  |var z=>
   refine val _ q hc ?_
   induction m using Nat.casesAuxOn with
   |zero=>cases hc
   |succ m=>exact dU hc fun _ _ _=>rfl
  |sub o i=>
   refine val _ q hc ?_
   induction m using Nat.casesAuxOn with
   |zero=>cases hc
   |succ m=>exact pb hc fun _ _ _ _=>rfl
  |call f l=>
   refine val _ q hc ?_
   induction m using Nat.casesAuxOn with
   |zero=>cases hc
   |succ m=>exact gX hc fun _ _ _ _ _=>rfl
  |_=>exact False.elim q
theorem UE(H:iH W N G)(IH:∀m,m<=n->eh W d (ev G C n) (aH N m))(hk:aJ<=n)(a:iu d 2 A)(I:Inv W g σ s.heap)(Ce:aS W g env ê s.heap){c t e:E}{x:Expr}(hc:aH N (aJ+1) env.scope.names (.ite c t e) x=true)
  (q:DR (ev G C n) G.tab n c ê σ fun b ab=>match b with
   |true=>ev G C n t ê ab Q
   |false=>ev G C n e ê ab Q):wpAny (model W.prog W.w) A (eval x env) (aR W env ê g σ s Q) NE s:=by
 refine Qo hc fun u v w p hc=>iy hc fun h1 h2 h3=>?_;refine wpAny_IfExp (uh.go (Ae H IH a n c u g σ s _ aJ hk h1 I Ce q) fun b g' aF s' q nx=>?_)
 induction b using Bool.casesOn with
 |true=>exact aR.on nx (IH aJ hk t v env ê g' aF s' _ A h2 a nx.inv nx.bJ q) fun _ _ k=>k
 |false=>exact aR.on nx (IH aJ hk e w env ê g' aF s' _ A h3 a nx.inv nx.bJ q) fun _ _ k=>k
theorem EI.go{M:Model}{Q:List ag->St->Prop}{R:List Value->Shared->Prop}{t:Sem (List Value)}(h:wpAny M A t (EI W env ê g σ s Q) NE s)
  (k:∀ms vs g' aF s',Q ms aF->cc W g' ms vs->jd ms=true->dO W env ê g σ s g' aF s'->R vs s'):wpAny M A t R NE s:=
 cQ h fun v s' ⟨m,g',aF,q,r,z,n⟩=>k m v g' aF s' q r z n
theorem lR{x:Expr}{xs:List Expr}{env:Env}(h:notStar x=true):starEach (x::xs) env=(false,eval x env)::starEach xs env:=by
 rcases x with _|_<;>first|rfl|rcases h with _|_
theorem Af(H:iH W N G)(IH:eh W d (ev G C n) (aH N aJ))(a:iu d 2 A){pos:Pos}:∀(l:List E) (xs:List Expr) (g:Gh) (σ:St) (s:Shared) (Q:List ag->St->Prop),jE (aH N aJ env.scope.names) l xs=true->Inv W g σ s.heap->aS W g env ê s.heap->
  DB (ev G C n) l ê σ Q->wpAny (model W.prog W.w) A (spliced (backTo pos (starEach xs env))) (EI W env ê g σ s fun ms aF=>ms.length=l.length/\Q ms aF) NE s
 |[],[],g,σ,s,Q,hc,I,Ce,q=>spliced_nil ⟨[],g,σ,⟨rfl,q⟩,trivial,rfl,dO.refl I Ce⟩
 |e::es,x::xs,g,σ,s,Q,hc,I,Ce,q=>by
  have hc:(notStar x&&aH N aJ env.scope.names e x&&jE (aH N aJ env.scope.names) es xs)=true:=hc;simp only[Bool.and_eq_true]at hc;obtain⟨⟨h1,h2⟩,h3⟩:=hc;refine spliced_more (aR.go (IH e x env ê g σ s _ A h2 a I Ce q) fun m u g' aF s' q r nx=>?_) (lR h1);refine lW (yE nx.inv nx.bJ r q) fun m' g2 tO q r2 nt iz=>?_;refine EI.go (Af H IH a es xs g2 tO s' _ h3 iz.inv iz.bJ q) fun ms vs g3 nS s3 q r3 nts kZ=>?_;have hl:=q.1;have q':=q.2;have v8:=fZ q';have hv:=v8.1;have UG:=v8.2;clear v8;exact⟨m'::ms,g3,nS,⟨congrArg (·+1) hl,UG⟩,⟨kZ.rep r2 hv,r3⟩,qy nt nts,(nx.trans iz).trans kZ⟩
 |[],_::_,_,_,_,_,hc,_,_,_=>by cases hc
 |_::_,[],_,_,_,_,hc,_,_,_=>by cases hc
theorem Kt{ck:E->Expr->Bool}:∀{l:List E} {xs:List Expr},jE ck l xs=true->xs.length=l.length:=by
 intro l0
 induction l0 with
 |nil=>
  intro l1;rcases l1 with _|⟨y0,nK⟩
  ·intro _;exact rfl
  ·intro h;cases h
 |cons e es ih=>
  intro l1;rcases l1 with _|⟨x,xs⟩
  ·intro h;cases h
  ·intro h;have h:(notStar x&&ck e x&&jE ck es xs)=true:=h;simp only[Bool.and_eq_true]at h;exact congrArg (·+1) (ih h.2)
theorem E2{ms:List ag}{ds:List D}{vs:List Value}(h:qL ms=some ds)(r:cc W g ms vs):∃as,ReadsAll g.B vs ds as:=by
 rw[Ct h]at r;exact gP r
theorem UH(H:iH W N G)(IH:eh W d (ev G C n) (aH N aJ))(a:iu d 2 A)(I:Inv W g σ s.heap)(Ce:aS W g env ê s.heap){l:List E}{x:Expr}(hc:aH N (aJ+1) env.scope.names (.tup l) x=true)
  (q:DB (ev G C n) l ê σ fun vs ab=>oS (qL vs) fun ds=>Q (.d (.tuple ds)) ab):wpAny (model W.prog W.w) A (eval x env) (aR W env ê g σ s Q) NE s:=by
 refine qO hc fun xs k p hc=>dR hc fun h1 h2=>?_;refine wpAny_Tuple (EI.go (Af H IH a l xs g σ s _ h1 I Ce q) fun ms vs g' aF s' q r nt nx=>?_)
 ·obtain⟨hl,q⟩:=q;have hz:vs.length<=sizeLine:=by
   rw[d6 r,hl];exact Nat.le_trans (of_decide_eq_true h2) (by decide+kernel)
  refine⟨hz,?_⟩;refine lL q fun ds e q=>?_;obtain⟨as,ra⟩:=E2 e r;exact(EP nx.inv nx.bJ ra q).pre nx
end
section
variable{W:Wd}{N:Nm}{G:Own}{A:Around}{s:Shared}{g:Gh}{σ:St}{env:Env}{ê:ak}{d n aJ:Nat}{C:Cl}{Q:KV}
theorem UI(H:iH W N G)(IH:eh W d (ev G C n) (aH N aJ))(a:iu d 2 A)(I:Inv W g σ s.heap)(Ce:aS W g env ê s.heap){p:Place}{l:List E}{x:Expr}(hc:aH N (aJ+1) env.scope.names (.lst p l) x=true)
  (q:DB (ev G C n) l ê σ fun vs ab=>pL p (Jh vs) ê ab Q):wpAny (model W.prog W.w) A (eval x env) (aR W env ê g σ s Q) NE s:=by
 refine JJ hc fun xs p hc=>dR hc fun h1 h2=>?_;refine wpAny_List (EI.go (Af H IH a l xs g σ s _ h1 I Ce q) fun ms vs g' aF s' q r nt nx=>?_);have hl:=q.1;have q':=q.2;refine⟨?_,(Nj nx.inv nx.bJ r q').pre nx⟩;rw[d6 r,hl];exact Nat.le_trans (of_decide_eq_true h2) (by decide+kernel)
theorem Ku(H:iH W N G)(IH:eh W d (ev G C n) (aH N aJ))(a:iu d 2 A){pos:Pos}:∀(ks:List Str) (l:List E) (ys:List (Option Expr)) (xs:List Expr) (g:Gh) (σ:St) (s:Shared) (Q:List ag->St->Prop),F9 ks ys=true->jE (aH N aJ env.scope.names) l xs=true->ks.length=l.length->Inv W g σ s.heap->aS W g env ê s.heap->
  DB (ev G C n) l ê σ Q->wpAny (model W.prog W.w) A (evalPairs (pairTrees ys xs env pos)) (fun vs s'=>∃ms ws g' aF,Q ms aF/\cc W g' ms ws/\rH vs ks ws/\dO W env ê g σ s g' aF s') NE s:=by
 intro l0
 induction l0 with
 |nil=>
  intro l ys xs g σ s Q hk hc hl I Ce q;rcases l with _|⟨e,es⟩
  ·rcases ys with _|⟨y,ys⟩
   ·rcases xs with _|⟨x,xs⟩
    ·exact wpAny_pure ⟨[],[],g,σ,q,trivial,rfl,dO.refl I Ce⟩
    ·exact ff hc
   ·exact ff hk
  ·cases hl
 |cons k ks ih=>
  intro l ys xs g σ s Q hk hc hl I Ce q;rcases l with _|⟨e,es⟩
  ·cases hl
  rcases ys with _|⟨y,ys⟩
  ·exact ff hk
  rcases xs with _|⟨x,xs⟩
  ·exact ff hc
  have hc:(notStar x&&aH N aJ env.scope.names e x&&jE (aH N aJ env.scope.names) es xs)=true:=hc;simp only[Bool.and_eq_true]at hc;obtain⟨⟨h1,h2⟩,h3⟩:=hc;have E3:=cx hk;have DC:=E3.1;have SG:=E3.2;clear E3
  ·refine qQ DC fun y DC=>sz DC fun c kd kp DC=>MY DC fun y' DC=>?_;have ey:=bj.mp DC;subst ey;show wpAny _ _ (eval _ env>>= _) _ _ _;refine wpAny_bind (wpAny_Constant_str (wpAny_bind (wpAny_holding (wpAny_bind ?_))));have Jk:dO W env ê g σ s g σ {s with toks:=s.toks+1}:=dO.ke I Ce (fun _ _ e=>e) rfl rfl;refine aR.go (IH e x env ê g σ _ _ A h2 a Jk.inv Jk.bJ q) fun m u g' aF s' q r nx=>?_;refine wpAny_bind (wpAny_standAt (wpAny_pure (wpAny_bind (wpAny_holding ?_))));refine lW (yE nx.inv nx.bJ r q) fun m' g2 tO q r2 nt iz=>?_;refine cQ (ih es ys xs g2 tO s' _ SG h3 (Nat.succ.inj hl) iz.inv iz.bJ q) fun vs s3 h=>?_;refine Jq (h) fun ms ws g3 nS q' r3 hp kZ=>?_;have v8:=fZ q';have hv:=v8.1;have UG:=v8.2;clear v8;exact wpAny_pure ⟨m'::ms,u::ws,g3,nS,UG,⟨kZ.rep r2 hv,r3⟩,⟨_,_,rfl,hp⟩,((Jk.trans nx).trans iz).trans kZ⟩
theorem E4:∀{ks:List Str} {ys:List (Option Expr)},F9 ks ys=true->(ys.all fun x=>x.isSome)=true/\ys.length=ks.length:=by
 intro l0
 induction l0 with
 |nil=>
  intro l1;rcases l1 with _|⟨y0,nK⟩
  ·intro _;exact⟨rfl,rfl⟩
  ·intro h;cases h
 |cons k ks ih=>
  intro l1;rcases l1 with _|⟨y,ys⟩
  ·intro h;cases h
  ·intro h;obtain⟨h1,h2⟩:=cx h;obtain⟨a,b⟩:=ih h2;exact qQ h1 fun _ _=>⟨by rw[List.all_cons,a];rfl,congrArg (·+1) b⟩
theorem UJ(H:iH W N G)(IH:eh W d (ev G C n) (aH N aJ))(a:iu d 2 A)(I:Inv W g σ s.heap)(Ce:aS W g env ê s.heap){p:Place}{ks:List Str}{l:List E}{x:Expr}(hc:aH N (aJ+1) env.scope.names (.G9 p ks l) x=true)
  (q:DB (ev G C n) l ê σ fun vs ab=>pK ê σ ab (pL p (.dict (ks.zip vs)) ê ab Q)):wpAny (model W.prog W.w) A (eval x env) (aR W env ê g σ s Q) NE s:=by
 refine JL hc fun ys xs pp hc=>qg hc fun h1 h2 h3 h4 h5=>?_;have h3:=of_decide_eq_true h3;have h4:=of_decide_eq_true h4;obtain⟨ha,hy⟩:=E4 h1;have hx:=Kt h2
 induction l using List.casesOn with
 |nil=>
  have e1:ks=[]:=List.length_eq_zero_iff.mp h3;subst e1;have e2:ys=[]:=List.length_eq_zero_iff.mp hy;have e3:xs=[]:=List.length_eq_zero_iff.mp hx;subst e2 e3;obtain⟨_,q⟩:=mG (show pK ê σ σ (pL p (.dict []) ê σ Q)from q);refine wpAny_Dict_empty ?_;have hg:(s.heap.push jR).get? s.heap.objs.size=some jR:=Heap.get?_push_size _ rfl;refine SY (Ad (o:=.dict []) I Ce (cY _) (fun b o e=>Heap.get?_push_of_some _ e) hg rfl (fun g' rm tag z=>⟨z,[],v7 hg,trivial⟩) (fun _ _ z=>nomatch z) q) fun m g' aF hk rm I' C' P=>?_;exact⟨m,g',aF,hk,rm,I',C',P,rfl,rfl⟩
 |cons e es=>
  refine wpAny_Dict_any ha (by rw[hy,h3,hx]) (fun z=>by rw[z]at hy;rw[h3]at hy;cases hy) (by rw[hy,h3];exact h4) ?_;have Jk:dO W env ê g σ s g σ {s with heap:=s.heap.push jR}:=dO.ke I Ce (fun b o e=>Heap.get?_push_of_some _ e) rfl rfl;refine cQ (Ku H IH a ks (e::es) ys xs g σ _ _ h1 h2 h3 Jk.inv Jk.bJ q) fun vs s1 h=>?_;refine Jq (h) fun ms ws g1 WM q' r hp nx=>?_;obtain⟨hv,UG⟩:=mG q';exact Nk I Ce nx r hp h5 (by rw[h3];exact Nat.le_trans h4 (by decide)) hv UG
theorem UK(IH:eh W d (ev G C n) (aH N aJ))(a:iu d 2 A)(I:Inv W g σ s.heap)(Ce:aS W g env ê s.heap){e:E}{x:Expr}(hc:aH N (aJ+1) env.scope.names (.gM e) x=true)
  (q:ev G C n e ê σ fun v ab=>P9 v ê ab Q):wpAny (model W.prog W.w) A (eval x env) (aR W env ê g σ s Q) NE s:=by
 refine aR.go (IH e x env ê g σ s _ A hc a I Ce q) fun m u g' aF s' q r nx=>?_;exact(QO nx.inv nx.bJ r q).pre nx
theorem Kv(H:iH W N G)(IH:eh W d (ev G C n) (aH N aJ))(a:iu d 2 A)(I:Inv W g σ s.heap)(Ce:aS W g env ê s.heap){e:E}{z:Str}{y:Expr}{np pos:Pos}{id:String}{R:Value->Shared->Prop}{Q':KV}
  (hz:(z==("__debug__" :Str))=false) (hg:gQ env.scope.names z=true) (hm:W.mg z=none) (hb:W.mb z=some (.builtin id)) (hc:jE (aH N aJ env.scope.names) [e] [y]=true) (q:ev G C n e ê σ Q')
  (k:∀m v g' aF s',Q' m aF->bG W g' m v->dO W env ê g σ s g' aF s'->wpAny (model W.prog W.w) A (call (.builtin id) [v]) R NE s'):wpAny (model W.prog W.w) A (eval (.Call (.Name z np) [y] [] pos) env) R NE s:=by
 have hc:(notStar y&&aH N aJ env.scope.names e y&&true)=true:=hc;simp only[Bool.and_eq_true]at hc;obtain⟨⟨h1,h2⟩,_⟩:=hc;refine wpAny_Call_ofName (rI H I Ce hg hz hm hb ?_);have es:starEach [y] env=[(false,eval y env)]:=lR h1;refine az (es) ?_;refine callWith_builtin rfl (evalArgs_plain (spliced_cons (aR.go (IH e y env ê g σ s _ A h2 a I Ce q) fun m v g' aF s' q r nx=>spliced_nil ?_)));exact k m v g' aF s' q r nx
theorem rJ(H:iH W N G)(IH:eh W d (ev G C n) (aH N aJ))(a:iu d 2 A)(I:Inv W g σ s.heap)(Ce:aS W g env ê s.heap){e:E}{z:Str}{y:Expr}{np pos:Pos}{id:String}{R:Value->Shared->Prop}{Q':KV}
  (hz:(z==("__debug__" :Str))=false) (hg:gQ env.scope.names z=true) (hm:W.mg z=none) (hb:W.mb z=some (.type id)) (hc:jE (aH N aJ env.scope.names) [e] [y]=true) (q:ev G C n e ê σ Q')
  (k:∀m v g' aF s',Q' m aF->bG W g' m v->dO W env ê g σ s g' aF s'->wpAny (model W.prog W.w) A (call (.type id) [v]) R NE s'):wpAny (model W.prog W.w) A (eval (.Call (.Name z np) [y] [] pos) env) R NE s:=by
 have hc:(notStar y&&aH N aJ env.scope.names e y&&true)=true:=hc;simp only[Bool.and_eq_true]at hc;obtain⟨⟨h1,h2⟩,_⟩:=hc;refine wpAny_Call_ofName (rI H I Ce hg hz hm hb ?_);have es:starEach [y] env=[(false,eval y env)]:=lR h1;refine az (es) ?_;refine PyProof.Rows.callWith_type rfl (evalArgs_plain (spliced_cons (aR.go (IH e y env ê g σ s _ A h2 a I Ce q) fun m v g' aF s' q r nx=>spliced_nil ?_)));exact k m v g' aF s' q r nx
theorem UL(H:iH W N G)(IH:eh W d (ev G C n) (aH N aJ))(a:iu d 2 A)(I:Inv W g σ s.heap)(Ce:aS W g env ê s.heap){e:E}{x:Expr}(hc:aH N (aJ+1) env.scope.names (.len e) x=true)
  (q:ev G C n e ê σ fun v ab=>Qa v ab fun k=>Q (.d (.int k)) ab):wpAny (model W.prog W.w) A (eval x env) (aR W env ê g σ s Q) NE s:=by
 refine gX hc fun z np xs pos hc=>jf hc fun y hc=>iy hc fun h1 h2 h3=>?_;refine nZ (cX h1) fun ui hd _ _=>?_;subst ui;exact Kv H IH a I Ce hd h2 H.bl.1 H.bl.2 h3 q fun m v g' aF s' q r nx=>aR.on nx (QH nx.inv nx.bJ r q) fun m oB ⟨e,k,e',hk⟩=>by rw[e,e'];exact hk
theorem UM(H:iH W N G)(IH:eh W d (ev G C n) (aH N aJ))(a:iu d 2 A)(I:Inv W g σ s.heap)(Ce:aS W g env ê s.heap){e:E}{x:Expr}(hc:aH N (aJ+1) env.scope.names (.str e) x=true)
  (q:ev G C n e ê σ fun v ab=>fz v ab fun v' au=>Qd v' fun x=>Q (.d x) au):wpAny (model W.prog W.w) A (eval x env) (aR W env ê g σ s Q) NE s:=by
 refine gX hc fun z np xs pos hc=>jf hc fun y hc=>iy hc fun h1 h2 h3=>?_;refine nZ (cX h1) fun ui hd _ _=>?_;subst ui;refine rJ H IH a I Ce hd h2 H.bs.1 H.bs.2 (by exact h3) q fun m v g' aF s' q r nx=>?_;refine lW (yE nx.inv nx.bJ r q) fun m' g2 tO q r2 nt iz=>?_;exact aR.on (nx.trans iz) (QK H a (by decide) iz.inv iz.bJ r2 q) fun m oB ⟨e,k,e',hk⟩=>by rw[e,e'];exact hk
theorem Kw(H:iH W N G)(IH:eh W d (ev G C n) (aH N aJ))(a:iu d 2 A)(I:Inv W g σ s.heap)(Ce:aS W g env ê s.heap){e:E}{x:Expr}(hc:aH N (aJ+1) env.scope.names (.sj e) x=true)
  (q:ev G C n e ê σ fun v ab=>jI v fun x=>dL x fun l=>l.length<=ah/\Q (.d (.list l)) ab):wpAny (model W.prog W.w) A (eval x env) (aR W env ê g σ s Q) NE s:=by
 refine gX hc fun z np xs pos hc=>jf hc fun y hc=>iy hc fun h1 h2 h3=>?_;refine nZ (cX h1) fun ui hd _ _=>?_;subst ui;refine rJ H IH a I Ce hd h2 H.Yo.1 H.Yo.2 (by exact h3) q fun m v g' aF s' q r nx=>?_;refine bc fun hn=>?_;revert r;refine cN q fun x q=>Ju q fun l q r=>hn ?_;exact aR.on nx (HS nx.inv nx.bJ r q.1) fun m oB ⟨e,e'⟩=>by rw[e,e'];exact q.2
theorem HY(H:iH W N G)(IH:eh W d (ev G C n) (aH N aJ))(a:iu d 2 A)(I:Inv W g σ s.heap)(Ce:aS W g env ê s.heap){e:E}{x:Expr}(hc:aH N (aJ+1) env.scope.names (.oZ e) x=true)
  (q:ev G C n e ê σ fun v ab=>fz v ab fun v' au=>jI v' fun x=>dL x fun l=>l.length<=ah/\Q (.d (.tuple l)) au):wpAny (model W.prog W.w) A (eval x env) (aR W env ê g σ s Q) NE s:=by
 refine gX hc fun z np xs pos hc=>jf hc fun y hc=>iy hc fun h1 h2 h3=>?_;refine nZ (cX h1) fun ui hd _ _=>?_;subst ui;refine rJ H IH a I Ce hd h2 H.bt.1 H.bt.2 (by exact h3) q fun m v g' aF s' q r nx=>?_;refine lW (yE nx.inv nx.bJ r q) fun m' g2 tO q r2 nt iz=>?_;refine bc fun hn=>?_;revert r2;refine cN q fun x q=>Ju q fun l q r2=>hn ?_;exact aR.on (nx.trans iz) (ET iz.inv iz.bJ r2 q.1) fun m oB ⟨e,e'⟩=>by rw[e,e'];exact q.2
end
section
variable{W:Wd}{N:Nm}{G:Own}{A:Around}{s:Shared}{g:Gh}{σ:St}{env:Env}{ê:ak}{d n aJ:Nat}{C:Cl}{Q:KV}
theorem Cv:Bv=("append" :Str):=by decide+kernel
theorem Cw:Bw=("extend" :Str):=by decide+kernel
theorem Kx:OW=("pop" :Str):=by decide+kernel
theorem Cx:Bx=("update" :Str):=by decide+kernel
theorem Ky:OX=("get" :Str):=by decide+kernel
theorem rK{v:Expr}{nm:Str}{env:Env}(h:pd v=true):attributeBase v nm env (eval v env)=eval v env:=by
 rcases v with _|_<;>first|rfl|exact ff h
theorem v9(I:Inv W g σ s.heap){m:ag}{v:Value}{P:Prop}(r:bG W g m v)(h:Bl m σ P):∃l,v=.ref l/\s.TypeIs v "list" /\(∀a,v=.ref a->∃ob,s.heap.get? a=some ob/\ob.dict=none)/\P:=by
 refine qK h fun c r' e h=>?_
 ·refine nY (ly I r e) fun l ws k nR hg hr=>?_;subst nR;exact⟨l,rfl,(fO hg).typeIs,fun a e=>by rcases e with _|_;exact⟨_,hg,rfl⟩,h⟩
theorem Gr{y:Expr}{pos:Pos}(h:notStar y=true):backTo pos (starEach [y] env)=[(false,eval y env)]:=by
 have es:starEach [y] env=[(false,eval y env)]:=lR h;rw[es];rfl
theorem QR{y:Expr}{pos:Pos}(h:notStar y=true):((((backTo pos (starEach [y] env)).all fun x=> !x.fst)&&(backToKw pos (keywordEach [] env)).all fun x=>x.fst.isSome)&&decide (([y]:List Expr).length+([]:List Keyword).length+(if([]:List Keyword).isEmpty=true then 0 else 1)<30))=true:=by
 rw[Gr h];rfl
theorem Kz(H:iH W N G)(IH:eh W d (ev G C n) (aH N aJ))(a:iu d 2 A)(I:Inv W g σ s.heap)(Ce:aS W g env ê s.heap){o y:E}{x:Expr}(hc:aH N (aJ+1) env.scope.names (.append o y) x=true)
  (q:ev G C n o ê σ fun v ab=>Bl v ab (ev G C n y ê ab fun w au=>xC v ab au (y7 v w au fun eE=>Q (.d .none) eE))):wpAny (model W.prog W.w) A (eval x env) (aR W env ê g σ s Q) NE s:=by
 refine mz hc fun v m ap ws p hc=>jf hc fun w hc=>qg hc fun h1 h2 h3 h4 h5=>?_;have e1:=bj.mp h1;refine az (e1) ?_;refine az (Cv) ?_;have h3:(notStar w&&aH N aJ env.scope.names y w&&true)=true:=h3;simp only[Bool.and_eq_true]at h3;refine bc fun bf=>?_;obtain⟨⟨s1,s2⟩,_⟩:=h3;refine bf ?_;refine wpAny_Call_method (rK h5) (QR s1) h2 PySem.F.plainAttrs_list PySem.F.slot_list_append PySem.F.type_list_append (aR.go (IH o v env ê g σ s _ A h4 a I Ce q) fun mo u g' aF s' q r nx=>?_);refine yZ (v9 nx.inv r q) fun l Kr ht hd q=>?_;subst Kr;refine⟨ht,hd,?_⟩;refine az (Gr s1) ?_;refine PySem.P.append_list (aR.go (IH y w env ê g' aF s' _ A s2 a nx.inv nx.bJ q) fun my u' Pb oB Pc q r' lK=>?_);refine bc fun bf=>?_;obtain⟨hv,q⟩:=fZ q;obtain⟨l',items,k,e,hz,hl,nS,hk,kZ⟩:=HT lK.inv lK.bJ (lK.rep r hv) r' q;refine bf ?_;rcases e with _|_;exact⟨items,k,hz,hl,.d .none,_,nS,hk,mH,(nx.trans lK).trans kZ⟩
theorem UN(H:iH W N G)(IH:eh W d (ev G C n) (aH N aJ))(a:iu d 2 A)(I:Inv W g σ s.heap)(Ce:aS W g env ê s.heap){o:E}{x:Expr}(hc:aH N (aJ+1) env.scope.names (.pop o) x=true)
  (q:ev G C n o ê σ fun v ab=>Qc v ab Q):wpAny (model W.prog W.w) A (eval x env) (aR W env ê g σ s Q) NE s:=by
 refine mz hc fun v m ap ws p hc=>tF hc fun hc=>lY hc fun h1 h2 h4 h5=>?_;have e1:=bj.mp h1;refine az (e1) ?_;refine az (Kx) ?_;refine wpAny_Call_method (rK h5) rfl h2 PySem.F.plainAttrs_list PySem.F.slot_list_pop PySem.F.type_list_pop (aR.go (IH o v env ê g σ s _ A h4 a I Ce q) fun mo u g' aF s' q r nx=>?_);refine Xa (QM nx.inv nx.bJ r q) fun l items k y Yr hz hl hy out=>?_;subst Yr;refine⟨(hl:IsL _ _ _ _).isList.typeIs,fun a e=>by rcases e with _|_;exact⟨_,hl,rfl⟩,?_⟩;exact PySem.P.pop_list hl hy (out.pre nx) hz
theorem KA(H:iH W N G)(IH:eh W d (ev G C n) (aH N aJ))(a:iu d 2 A)(I:Inv W g σ s.heap)(Ce:aS W g env ê s.heap){o y:E}{x:Expr}(hc:aH N (aJ+1) env.scope.names (.extend o y) x=true)
  (q:ev G C n o ê σ fun v ab=>Bl v ab (ev G C n y ê ab fun w au=>y8 v w au fun eE=>Q (.d .none) eE)):wpAny (model W.prog W.w) A (eval x env) (aR W env ê g σ s Q) NE s:=by
 refine mz hc fun v m ap ws p hc=>jf hc fun w hc=>qg hc fun h1 h2 h3 h4 h5=>?_;have e1:=bj.mp h1;refine az (e1) ?_;refine az (Cw) ?_;have h3:(notStar w&&aH N aJ env.scope.names y w&&true)=true:=h3;simp only[Bool.and_eq_true]at h3;refine bc fun bf=>?_;obtain⟨⟨s1,s2⟩,_⟩:=h3;refine bf ?_;refine wpAny_Call_method (rK h5) (QR s1) h2 PySem.F.plainAttrs_list PySem.F.slot_list_extend PySem.F.type_list_extend (aR.go (IH o v env ê g σ s _ A h4 a I Ce q) fun mo u g' aF s' q r nx=>?_);refine yZ (v9 nx.inv r q) fun l Kr ht hd q=>?_;subst Kr;refine⟨ht,hd,?_⟩;refine az (Gr s1) ?_;refine method1_meetsIn PySem.F.slot_list_extend PySem.F.entry_list_extend (aR.go (IH y w env ê g' aF s' _ A s2 a nx.inv nx.bJ q) fun my u' Pb oB Pc q r' lK=>?_);have hv:ku mo=false:=by
  exact Jr q fun _ _=>rfl
 refine bc fun bf=>?_;obtain⟨l',b,e,e',items,jQ,n1,n2,ob,hl,hb,hc,hd,hz,nS,hk,kZ⟩:=HW lK.inv lK.bJ (lK.rep r (fun z=>by rw[hv]at z;rcases z with _|_)) r' q;refine bf ?_;rcases e with _|_;rcases e' with _|_;refine⟨(hl:IsL _ _ _ _).isList.typeIs,PySem.F.args_list_extend_2 _ _,_,Ab _ _ l b,items,jQ,n1,n2,ob,hl,hb,hc,hd,hz,?_⟩;exact⟨.d .none,_,nS,hk,mH,(nx.trans lK).trans kZ⟩
theorem wa(I:Inv W g σ s.heap){m:ag}{v:Value}{P:Prop}(r:bG W g m v)(h:Bm m σ P):∃l,v=.ref l/\s.TypeIs v "dict" /\(∀a,v=.ref a->∃ob,s.heap.get? a=some ob/\ob.dict=none)/\P/\∃t,g.O l=t/\t≠.no:=by
 have fin:∀{p:Addr} {gK:List (Str×Value)},Heap.DictOf (strKind W.prog W.w) s.heap p gK->s.TypeIs (.ref p) "dict" /\(∀a,Value.ref p=.ref a->∃ob,s.heap.get? a=some ob/\ob.dict=none):=fun{p gK} hd=>by
  refine⟨hd.mapOf.typeIs,fun a e=>?_⟩;rcases e with _|_;refine nY (hd) fun o es ep ho hx _=>?_;exact⟨o,ho,hx.2.1⟩
 refine Ha h fun l e hP=>?_
 ·induction m using ag.casesOn with
  |b i=>
   refine DI (k6 I e) fun p gK e1 ho hd hr=>?_;refine bR (r) fun p' e2 ja=>?_;subst ja;obtain rfl:=Option.some.inj (Option.some.inj (e1.symm.trans e2));exact⟨_,rfl,(fin hd).1,(fin hd).2,hP,_,ho,fun z=>nomatch z⟩
  |t i=>
   refine i8 (I.ct i _ e) fun p e1 Us _=>?_;obtain⟨ho,gK,hd,hr⟩:=Us;refine bR (r) fun p' e2 ja=>?_;subst ja;obtain rfl:=Option.some.inj (e1.symm.trans e2);exact⟨_,rfl,(fin hd).1,(fin hd).2,hP,_,ho,fun z=>nomatch z⟩
  |_=>exact Bh e
theorem KC(H:iH W N G)(IH:eh W d (ev G C n) (aH N aJ))(a:iu d 2 A)(I:Inv W g σ s.heap)(Ce:aS W g env ê s.heap){o y:E}{x:Expr}(hc:aH N (aJ+1) env.scope.names (.update o y) x=true)
  (q:ev G C n o ê σ fun v ab=>Bm v ab (ev G C n y ê ab fun w au=>xC v ab au (Qb v w au fun eE=>Q (.d .none) eE))):wpAny (model W.prog W.w) A (eval x env) (aR W env ê g σ s Q) NE s:=by
 refine mz hc fun v m ap ws p hc=>jf hc fun w hc=>qg hc fun h1 h2 h3 h4 h5=>?_;have e1:=bj.mp h1;refine az (e1) ?_;refine az (Cx) ?_;have h3:(notStar w&&aH N aJ env.scope.names y w&&true)=true:=h3;simp only[Bool.and_eq_true]at h3;refine bc fun bf=>?_;obtain⟨⟨s1,s2⟩,_⟩:=h3;refine bf ?_;refine wpAny_Call_method (rK h5) (QR s1) h2 PySem.F.plainAttrs_dict PySem.F.slot_dict_update PySem.F.type_dict_update (aR.go (IH o v env ê g σ s _ A h4 a I Ce q) fun mo u g' aF s' q r nx=>?_);refine SX (wa nx.inv r q) fun l Kr ht hd q _=>?_;subst Kr;refine⟨ht,hd,?_⟩;refine az (Gr s1) ?_;refine method1_meetsIn PySem.F.slot_dict_update PySem.F.entry_dict_update (aR.go (IH y w env ê g' aF s' _ A s2 a nx.inv nx.bJ q) fun my u' Pb oB Pc q r' lK=>?_);refine bc fun bf=>?_;obtain⟨hv,q⟩:=fZ q;obtain⟨l',b,e,e',qI,hsy,gK,more,d1,d2,hz,fin⟩:=HU H lK.inv lK.bJ (lK.rep r hv) r' q;refine bf ?_;rcases e with _|_;rcases e' with _|_;refine⟨d1.mapOf.typeIs,PySem.F.args_dict_update_2 _ _,_,meets_dict_update (strKind W.prog W.w) l b qI hsy,gK,more,d1,d2,hz,fun h' k1 k2 sb=>?_⟩;refine bR (fin h' k1 k2 sb) fun nS hk kZ=>?_;exact⟨.d .none,_,nS,hk,mH,(nx.trans lK).trans kZ⟩
end
section
variable{W:Wd}{N:Nm}{G:Own}{A:Around}{s:Shared}{g:Gh}{σ:St}{env:Env}{ê:ak}{d n aJ:Nat}{C:Cl}{Q:KV}
theorem wb{y z:Expr}{pos:Pos}(h:notStar y=true)(h':notStar z=true):backTo pos (starEach [y,z] env)=[(false,eval y env),(false,eval z env)]:=by
 have es:starEach [y,z] env=[(false,eval y env),(false,eval z env)]:=by rw[lR h,lR h'];rfl
 rw[es];rfl
theorem Yu{y z:Expr}{pos:Pos}(h:notStar y=true)(h':notStar z=true):((((backTo pos (starEach [y,z] env)).all fun x=> !x.fst)&&(backToKw pos (keywordEach [] env)).all fun x=>x.fst.isSome)&&decide (([y,z]:List Expr).length+([]:List Keyword).length+(if([]:List Keyword).isEmpty=true then 0 else 1)<30))=true:=by
 rw[wb h h'];rfl
set_option tactic.hygienic true in
theorem UO(H:iH W N G)(IH:eh W d (ev G C n) (aH N aJ))(a:iu d 2 A)(I:Inv W g σ s.heap)(Ce:aS W g env ê s.heap){o k y:E}{x:Expr}(hc:aH N (aJ+1) env.scope.names (.get o k y) x=true)
  (q:ev G C n o ê σ fun v ab=>Bm v ab<|ev G C n k ê ab fun w au=>ev G C n y ê au fun u eE=>xC w au eE (Ww v fun i=>jI w fun y=>dS y fun a=>oD (aq eE.temps i) fun l=>match dE a l with
    |some y=>Q y eE
    |none=>Q u eE)):wpAny (model W.prog W.w) A (eval x env) (aR W env ê g σ s Q) NE s:=by
 refine mz hc fun v m ap ws p hc=>F7 hc fun w u hc=>qg hc fun h1 h2 h3 h4 h5=>?_;have e1:=bj.mp h1;refine az (e1) ?_;refine az (Ky) ?_;have h3:(notStar w&&aH N aJ env.scope.names k w&&(notStar u&&aH N aJ env.scope.names y u&&true))=true:=h3;simp only[Bool.and_eq_true]at h3;refine nX (h3) fun zr0 zr1 _=>?_;have s1:=zr0.1;have s2:=zr0.2;have s3:=zr1.1;have s4:=zr1.2;refine wpAny_Call_method (rK h5) (Yu s1 s3) h2 PySem.F.plainAttrs_dict PySem.F.slot_dict_get PySem.F.type_dict_get (aR.go (IH o v env ê g σ s _ A h4 a I Ce q) fun mo uo g' aF s' q1 r nx=>?_);refine bc fun bf=>?_;obtain⟨l,rfl,ht,hd,q2,tg,ho,qI⟩:=wa nx.inv r q1;refine bf ?_;refine⟨ht,hd,?_⟩;refine az (wb s1 s3) ?_;refine wpAny_dict_get2 (knd:=strKind W.prog W.w) (z7 H nx.inv ho qI) (aR.go (IH k w env ê g' aF s' _ A s2 a nx.inv nx.bJ q2) fun mk uk g2 tO s2' q3 r2 iz=>?_);refine aR.go (IH y u env ê g2 tO s2' _ A s4 a iz.inv iz.bJ q3) fun my uy g3 nS WN q4 r3 kZ=>?_;have QS:=fZ q4;have hv:=QS.1;have q5:=QS.2;clear QS;have rk:=kZ.rep r2 hv;refine bc fun hn=>?_;clear ht hd ho qI q2;revert r rk;refine Jr q5 fun i q5=>cN q5 fun z q5=>Js q5 fun aa q5=>Ha q5 fun dl e q5 r rk=>hn ?_
 ·refine bx rk fun t=>?_
  ·refine i8 (kZ.inv.ct i _ e) fun p f1 Us _=>?_;refine bc fun bf=>?_;obtain⟨_,gK,Yv,hr⟩:=Us;refine bf ?_;have Yv:Heap.DictOf (strKind W.prog W.w) WN.heap p gK:=Yv;refine bR (kZ.rep (iz.rep r (fun z=>nomatch z)) (fun z=>nomatch z)) fun p' f2 e'=>?_;rw[f1]at f2;rcases f2 with _|_;rcases e' with _|_
   refine⟨aa,_,tM _ _ _ _,Yv.mapOf,?_⟩;have hg:=pn (x:=aa) hr;have nxa:dO W env ê g3 nS WN g3 nS {WN with toks:=WN.toks+1}:=dO.ke kZ.inv kZ.bJ (fun _ _ e=>e) rfl rfl;split at q5
   ·rename_i mm em;rw[em]at hg;refine bR (hg) fun vv ev' rv=>?_;refine az (ev') ?_;exact⟨mm,g3,nS,q5,rv,((nx.trans iz).trans kZ).trans nxa⟩
   ·rename_i em;rw[em]at hg;refine az (hg) ?_;exact⟨my,g3,nS,q5,r3,((nx.trans iz).trans kZ).trans nxa⟩
theorem Gs(IH:eh W d (ev G C n) (aH N aJ))(a:iu d 2 A)(I:Inv W g σ s.heap)(Ce:aS W g env ê s.heap){o:Option E}{x:Option Expr}{Q:Option ag->St->Prop}(hc:MV (aH N aJ env.scope.names) o x=true)(q:Tz (ev G C n) o ê σ Q){R:Value->Shared->Prop}
  (k:∀m v g' aF s',Q m aF->(match m with|none=>v=.none|some m=>bG W g' m v)->dO W env ê g σ s g' aF s'->R v s'):wpAny (model W.prog W.w) A (evalPart x env) R NE s:=by
 induction o using Option.casesOn with
 |none=>
  induction x using Option.casesOn with
  |none=>exact wpAny_pure (k none _ g σ s q rfl (dO.refl I Ce))
  |some x=>cases hc
 |some e=>
  induction x using Option.casesOn with
  |none=>cases hc
  |some x=>exact aR.go (IH e x env ê g σ s _ A hc a I Ce q) fun m v g' aF s' q r nx=>k (some m) v g' aF s' q r nx
theorem yF{v:Option ag}{K:Option Nat->Prop}(h:Jx v K):∃n,K n/\match n with|none=>v=none|some n=>n<=ah/\v=some (.d (.int (n:Int))):=by
 induction v using Option.casesOn with
 |none=>exact⟨none,h,rfl⟩
 |some v=>exact cN h fun x h=>t9 h fun k h=>Jv h fun n h=>⟨some n,h.2,h.1,rfl⟩
theorem KD {T:String} (h:T= "list" \/T= "tuple"):∃id,typeLookup (.type T) (Str.ofString "__getitem__")=pure (some (.builtin id)):=by
 rcases h with rfl|rfl
 ·exact⟨_,PySem.slot_list_getitem.lookup⟩
 ·exact⟨_,slot_tuple_getitem.lookup⟩
theorem UP(H:iH W N G)(IH:eh W d (ev G C n) (aH N aJ))(a:iu d 2 A)(I:Inv W g σ s.heap)(Ce:aS W g env ê s.heap){o:E}{lo hi:Option E}{x:Expr}(hc:aH N (aJ+1) env.scope.names (.DM o lo hi) x=true)
  (q:ev G C n o ê σ fun v ab=>Tz (ev G C n) lo ê ab fun a au=>Tz (ev G C n) hi ê au fun b eE=>
   Jx a fun a'=>Jx b fun b'=>P8 v a' b' fun x=>Q x eE):wpAny (model W.prog W.w) A (eval x env) (aR W env ê g σ s Q) NE s:=by
 refine pb hc fun v sl pos hc=>yq hc fun l u st p hc=>qP hc fun hc=>iy hc fun h1 h2 h3=>?_;refine Subscript_ (aR.go (IH o v env ê g σ s _ A h1 a I Ce q) fun m v0 g1 WM s1 q r nx=>?_);refine wpAny_Slice (Gs IH a nx.inv nx.bJ h2 q fun ma va g2 tO s2 q ra iz=>?_);refine Gs IH a iz.inv iz.bJ h3 q fun mb vb g3 nS s3 q rb kZ=>?_;refine wpAny_pure ?_;refine bR (yF q) fun na q ea=>?_;refine bR (yF q) fun nb q eb=>?_;have HZ:dO W env ê g3 nS s3 g3 nS {s3 with heap:=s3.heap.push {cls:=.type "slice",data:=.fields #[va,vb,.none]}}:=dO.ke kZ.inv kZ.bJ (fun b o e=>Heap.get?_push_of_some _ e) rfl rfl;have hm:ku m=false:=by
  exact cN q fun _ _=>rfl
 have rm:=kZ.rep (iz.rep r (fun z=>by rw[hm]at z;rcases z with _|_)) (fun z=>by rw[hm]at z;rcases z with _|_);have ra':Nh va na:=by
  induction na using Option.casesOn with
  |none=>subst ea;exact ra
  |some na=>obtain⟨_,rfl⟩:=ea;exact i4 (show dP g2.B (.int (na:Int)) va from ra)
 have rb':Nh vb nb:=by
  induction nb using Option.casesOn with
  |none=>subst eb;exact rb
  |some nb=>obtain⟨_,rfl⟩:=eb;exact i4 (show dP g3.B (.int (nb:Int)) vb from rb)
 refine bc fun bf=>?_;obtain⟨⟨T,hT,ht⟩,hw⟩:=QJ (A:=A) (W:=W) (ê:=ê) (env:=env) (v:=v0) (sl:=s3.heap.objs.size) HZ.inv HZ.bJ rm q ra' rb' (Heap.IsSliceOf.new _ _ _ _);obtain⟨id,hl⟩:=KD hT;refine bf ?_;refine tail_any (ops:=[.ref s3.heap.objs.size,v0]) ht hl ?_ rfl;exact aR.on (((nx.trans iz).trans kZ).trans HZ) hw fun m oB ⟨e,k⟩=>e▸k
end
noncomputable def Nl(W:Wd)(g:Gh)(σ:St)(s:Shared)(Q:KV):Result->Shared->Prop:=fun r s'=>match r with
 |.ok (.ret v)=>∃m g' aF,Q m aF/\j9 m=true/\bG W g' m v/\Inv W g' {aF with temps:=σ.temps} s'.heap/\gc g σ s.heap g' {aF with temps:=σ.temps} s'.heap/\s'.gens=s.gens/\s'.os=s.os
 |_=>False
noncomputable def wc(W:Wd)(d:Nat)(C:Cl):Prop:=
 ∀(f:Nat) (vs:List ag) (vals:List Value) (g:Gh) (σ:St) (s:Shared) (A:Around) (Q:KV),iu d 1 A->Inv W g σ s.heap->cc W g vs vals->jd vs=true->C f vs {σ with temps:=[]} Q->
  codeAny (model W.prog W.w) A (.call (.ref (W.fa f)) ⟨vals,[]⟩) (Nl W g σ s Q) s
section
variable{W:Wd}{N:Nm}{G:Own}{A:Around}{s:Shared}{g:Gh}{σ:St}{env:Env}{ê:ak}{d n aJ:Nat}{C:Cl}{Q:KV}
theorem Ag(H:iH W N G)(IH:eh W d (ev G C n) (aH N aJ))(a:iu d 2 A)(I:Inv W g σ s.heap)(Ce:aS W g env ê s.heap){pos:Pos}{l:List E}{xs:List Expr}{f:Value}{R:Args->Shared->Prop}{Q:List ag->St->Prop}(hc:jE (aH N aJ env.scope.names) l xs=true)(q:DB (ev G C n) l ê σ Q)
  (k:∀ms vs g' aF s',Q ms aF->cc W g' ms vs->jd ms=true->dO W env ê g σ s g' aF s'->R ⟨vs,[]⟩ s'):wpAny (model W.prog W.w) A (evalArgs f true (backTo pos (starEach xs env)) []) R NE s:=by
 induction xs using List.casesOn with
 |nil=>
  induction l using List.casesOn with
  |nil=>exact evalArgs_nil3 (k [] [] g σ s q trivial rfl (dO.refl I Ce))
  |cons _ _=>cases hc
 |cons x xs=>
  induction l using List.casesOn with
  |nil=>cases hc
  |cons e es=>
   have hc':(notStar x&&aH N aJ env.scope.names e x&&jE (aH N aJ env.scope.names) es xs)=true:=hc;simp only[Bool.and_eq_true]at hc';have Nn:backTo pos (starEach (x::xs) env)=(false,eval x env)::backTo pos (starEach xs env):=by rw[lR hc'.1.1];rfl
   have:=Af (pos:=pos) H IH a (e::es) (x::xs) g σ s Q hc I Ce q;rw[Nn]at this⊢;exact evalArgs_plain (EI.go this fun ms vs g' aF s' ⟨_,q⟩ r nt nx=>k ms vs g' aF s' q r nt nx)
theorem E5{pos:Pos}{ck:E->Expr->Bool}:∀{l:List E} {xs:List Expr},jE ck l xs=true->((backTo pos (starEach xs env)).any fun x=>x.1)=false:=by
 intro l0
 induction l0 with
 |nil=>
  intro l1;rcases l1 with _|⟨y0,nK⟩
  ·intro _;exact rfl
  ·intro h;cases h
 |cons e es ih=>
  intro l1;rcases l1 with _|⟨x,xs⟩
  ·intro h;cases h
  ·intro h;have h:(notStar x&&ck e x&&jE ck es xs)=true:=h;simp only[Bool.and_eq_true]at h;have Nn:backTo pos (starEach (x::xs) env)=(false,eval x env)::backTo pos (starEach xs env):=by rw[lR h.1.1];rfl
   rw[Nn,List.any_cons,ih h.2];rfl
theorem Cy(H:iH W N G)(HC:wc W d C)(a:iu d 2 A)(I:Inv W g σ s.heap)(Ce:aS W g env ê s.heap){f:Nat}{ms:List ag}{vs:List Value}(r:cc W g ms vs)(nt:jd ms=true)
  (q:C f ms {σ with temps:=[]} fun v au=>pK ê σ au (Q v {au with temps:=σ.temps})):wpAny (model W.prog W.w) A (call (.ref (W.fa f)) vs) (aR W env ê g σ s Q) NE s:=by
 refine wpAny_call (codeAny_mono (HC f ms vs g σ s A _ (a.le (by omega)) I r nt q) fun r s' h=>?_);unfold Nl at h;split at h
 ·refine S5 (h) fun m g' aF q _ rm I' P hg ho=>?_;have Ks:=mG q;have hv:=Ks.1;have q:=Ks.2;clear Ks;exact⟨m,g',_,q,rm,I',Ce.post P hv,P,hg,ho⟩
 ·exact h.elim
theorem QT(H:iH W N G)(HC:wc W d C)(IH:eh W d (ev G C n) (aH N aJ))(a:iu d 2 A)(I:Inv W g σ s.heap)(Ce:aS W g env ê s.heap){f:Nat}{l:List E}{x:Expr}(hc:aH N (aJ+1) env.scope.names (.call f l) x=true)
  (q:DB (ev G C n) l ê σ fun vs ab=>C f vs {ab with temps:=[]} fun v au=>pK ê ab au (Q v {au with temps:=ab.temps})):wpAny (model W.prog W.w) A (eval x env) (aR W env ê g σ s Q) NE s:=by
 refine gX hc fun z np xs pos hc=>lY hc fun h1 h2 h3 h4=>?_;refine nZ (cX h1) fun ui hd he _=>?_;subst ui;refine wpAny_Call_ofName (mK H I Ce h2 hd (H.fn f he) ?_);refine nW (H.Qz f) fun o fd ho KG=>?_;refine callWith_function (o:=o) (fd:=fd) (Ag H IH a I Ce h3 q fun ms vs g' aF s' q r nt nx=>?_);exact⟨⟨nx.inv.gM _ _ (nx.inv.fR _ _ ho),KG⟩,aR.on nx (Cy H HC a nx.inv nx.bJ r nt q) fun _ _ k=>k⟩
theorem Np(H:iH W N G)(HC:wc W d C)(IH:eh W d (ev G C n) (aH N aJ))(a:iu d 2 A)(I:Inv W g σ s.heap)(Ce:aS W g env ê s.heap){o:E}{l:List E}{x:Expr}(hc:aH N (aJ+1) env.scope.names (.tw o l) x=true)
  (q:ev G C n o ê σ fun v JB=>Xk v fun f=>DB (ev G C n) l ê JB fun vs ab=>C f vs {ab with temps:=[]} fun v au=>pK ê ab au (Q v {au with temps:=ab.temps})):wpAny (model W.prog W.w) A (eval x env) (aR W env ê g σ s Q) NE s:=by
 refine vg hc fun fe xs ks pos hc=>pb hc fun v w p hc=>tF hc fun hc=>iy hc fun h1 h2 h3=>?_;show wpAny _ A (do callWith pos (<-eval (.Subscript v w p) env) [] (backTo pos (starEach xs env)) (backToKw pos (keywordEach [] env))) _ _ s;refine wpAny_bind (aR.go (IH o _ env ê g σ s _ A h1 a I Ce q) fun m v0 g1 WM s1 q1 r1 Yw=>?_);revert r1;refine Tq q1 fun f q1 r1=>?_
 ·rcases r1 with _|_;refine nW (H.Qz f) fun ob fd ho KG=>?_;refine callWith_function (o:=ob) (fd:=fd) (Ag H IH a Yw.inv Yw.bJ h2 q1 fun ms vs g' aF s' q r nt nx=>?_);exact⟨⟨nx.inv.gM _ _ (nx.inv.fR _ _ ho),KG⟩,aR.on (Yw.trans nx) (Cy H HC a nx.inv nx.bJ r nt q) fun _ _ k=>k⟩
theorem H0{A:Around}{C:Addr}{rest:List Value}(a:iu d 2 A):iu d 1 (A.under (.builtin "type.__call__" ⟨.ref C::rest,[]⟩)):=by
 have h1:(A.under (.builtin "type.__call__" ⟨.ref C::rest,[]⟩)).depth=A.depth+1:=rfl;have h2:(A.under (.builtin "type.__call__" ⟨.ref C::rest,[]⟩)).units=A.units+1:=by
  have:(Code.builtin "type.__call__" ⟨.ref C::rest,[]⟩).cUnits=1:=by kernel_rfl
  show A.units+_=_;rw[this]
 have h3:(A.under (.builtin "type.__call__" ⟨.ref C::rest,[]⟩)).guards=A.guards:=rfl;refine⟨a.handled,?_,?_,h3.trans a.guards⟩
 ·rw[h1];have:=a.depth;exact ai this
 ·rw[h2];have:=a.units;exact ai this
theorem Nq{h h':Heap}(I:Inv W g σ h)(Ce:aS W g env ê h){p:Addr×Addr}{k slot:Nat}{K:KV}(k₁:∀b o,h.get? b=some o->h'.get? b=some o)(Qf:h.get? p.1=none)(A9:h.get? p.2=none)(ne:p.1≠p.2)(h1:h'.get? p.1=some (instObj (W.ca k) p.2))(h2:h'.get? p.2=some jR)
  (q:pL (.base [slot]) (.inst k []) ê σ K):∃m g' aF,K m aF/\j9 m=true/\bG W g' m (.ref p.1)/\RM W g g'/\Inv W g' aF h'/\aS W g' env ê h'/\gc g σ h g' aF h':=by
 have hc:∀g':Gh,∀i,g'.O p.1=.b i->g'.O p.2=.b i->dq W g' h' (.b i) (.inst k []) p:=fun g' i a b=>⟨a,b,ne,h1,[],0,h2,trivial⟩;refine lL q fun i Cu q=>?_
 ·have hT:DO (.inst k [])=true:=rfl;have q:Sy (A8 i) (Sx (iM ê) (K (.b i) {σ.lg i (some (.inst k []))with gen:=σ.gen+1})) (K (.b i) {σ.lg i (some (.inst k []))with gen:=σ.gen}):=q;cases hw:A8 i<;>rw[hw]at q
  ·refine yZ (I.nU (o:=.inst k []) (p:=p) (γ:=σ.gen) k₁ (jq Cu) Qf A9 ⟨_,h1⟩ ⟨_,h2⟩ (fun g' rm z z'=>hc g' i z z') hT (Nat.le_refl _)) fun g' rm e I' P=>?_;exact⟨_,g',_,q,rfl,⟨_,e,rfl⟩,rm,I',Ce.post P fun _=>rfl,P⟩
  ·refine Bi q fun hv q=>?_
   ·refine yZ (I.nU (o:=.inst k []) (p:=p) (γ:=σ.gen+1) k₁ (jq Cu) Qf A9 ⟨_,h1⟩ ⟨_,h2⟩ (fun g' rm z z'=>hc g' i z z') hT (Nat.le_succ _)) fun g' rm e I' P=>?_;exact⟨_,g',_,q,rfl,⟨_,e,rfl⟩,rm,I',Ce.post P (fun z=>by rw[hv]at z;rcases z with _|_),P⟩
theorem UQ(H:iH W N G)(HC:wc W d C)(IH:eh W d (ev G C n) (aH N aJ))(a:iu d 2 A)(I:Inv W g σ s.heap)(Ce:aS W g env ê s.heap){k slot:Nat}{l:List E}{x:Expr}(hc:aH N (aJ+1) env.scope.names (.new k slot l) x=true)
  (q:DB (ev G C n) l ê σ fun vs ab=>pL (.base [slot]) (.inst k []) ê ab fun o au=>
   C (G.init k) (o::vs) {au with temps:=[]} fun v eE=>jI v fun x=>dN x (xC o au eE (pK ê au eE (Q o {eE with temps:=au.temps})))):wpAny (model W.prog W.w) A (eval x env) (aR W env ê g σ s Q) NE s:=by
 refine gX hc fun z np xs pos hc=>lY hc fun h1 h2 h3 h4=>?_;refine nZ (cX h1) fun ui hd he _=>?_;subst ui;refine wpAny_Call_ofName (mK H I Ce h2 hd (H.cls k he) ?_);refine callWith_of (P:=fun h=>W.K.In h) ?_ (keeps_K (H.ckp k)) (Ag H IH a I Ce h3 q fun ms vs g1 WM s1 q1 r nt nx=>?_)
 ·rw[E5 h3];rfl
 have X:=z8 H nx.inv;refine⟨X,wpAny_call ?_⟩;refine bc fun bf=>?_;obtain⟨hh,gg,dd,tt,oo⟩:=s1;refine bf ?_;refine make_core (makes_of X (H.cmk k)) (looks_findIn X (H.cin k)) (fun self=>bind_fn X self (H.cfn k)) (.inl rfl) ?_;have Qf:hh.get? (hh.objs.size+1)=none:=by
  cases q:hh.get? (hh.objs.size+1)with
  |none=>rfl
  |some o=>exact absurd (Heap.lt_size q) (Nat.not_lt.mpr (Nat.le_succ _))
 have A9:hh.get? hh.objs.size=none:=cY hh;have kk:∀b o,hh.get? b=some o->((hh.push jR).push (instObj (W.ca k) hh.objs.size)).get? b=some o:=fun b o e=>Heap.get?_push_of_some _ (Heap.get?_push_of_some _ e);have hx:((hh.push jR).push (instObj (W.ca k) hh.objs.size)).get? (hh.objs.size+1)=some (instObj (W.ca k) hh.objs.size):=by
  have:=Heap.get?_push_size (hh.push jR) (o:=instObj (W.ca k) hh.objs.size) rfl;rwa[Heap.size_push]at this
 have hdx:((hh.push jR).push (instObj (W.ca k) hh.objs.size)).get? hh.objs.size=some jR:=Heap.get?_push_of_some _ (Heap.get?_push_size _ rfl);refine S5 (Nq (p:=(hh.objs.size+1,hh.objs.size)) nx.inv nx.bJ kk Qf A9 (Nat.succ_ne_self _) hx hdx q1) fun m g2 tO q2 nt2 r2 rm2 I2 C2 P2=>?_;refine codeAny_mono (HC (G.init k) (m::ms) (.ref (hh.objs.size+1)::vs) g2 tO ⟨_,gg,dd,tt,oo⟩ _ _ (H0 a) I2 ⟨r2,r.rm rm2⟩ (qy nt2 nt) q2) fun res s' h=>?_;unfold Nl at h;split at h
 ·rename_i v;refine bc fun bf=>?_;obtain⟨mv,g3,nS,q3,_,rv,I3,P3,hg,ho⟩:=h;refine bf ?_;revert rv;refine cN q3 fun x q3=>P4 q3 fun q3 rv=>?_
  ·refine dQ rv ?_;refine⟨rfl,?_⟩;refine bc fun bf=>?_;obtain⟨hv,q4⟩:=fZ q3;obtain⟨QU,q5⟩:=mG q4;refine bf ?_;have kZ:dO W env ê g2 tO ⟨_,gg,dd,tt,oo⟩ g3 _ s':=⟨I3,C2.post P3 QU,P3,hg,ho⟩;have iz:dO W env ê g1 WM ⟨hh,gg,dd,tt,oo⟩ g2 tO ⟨_,gg,dd,tt,oo⟩:=⟨I2,C2,P2,rfl,rfl⟩;exact⟨m,g3,_,q5,r2.mono P3 hv,(nx.trans iz).trans kZ⟩
 ·exact h.elim
end
structure Cz(W:Wd)(A:Around)(w:Option (Nat×List D))(xs:List D)(Ia:Addr)(It:Nat->Heap->Prop)(Rel:Gh->Prop):Prop where
 fr:∀k h h',It k h->(∀o,h.get? Ia=some o->h'.get? Ia=some o)->It k h'
 mono:∀g g',(∀m v,ku m=false->bG W g m v->bG W g' m v)->Rel g->Rel g'
 live:∀k h,It k h->∃o,h.get? Ia=some o
 item:∀k g σ (s:Shared) x (Q:Option Value->Shared->Prop) (E:Value->Shared->Prop),It k s.heap->Inv W g σ s.heap->Rel g->je w σ True->g.O Ia=.no->g.B.get? Ia=none->aq xs k=some x->
  (∀v h' tk,dP g.B x v->It (k+1) h'->(∀b o,b≠Ia->s.heap.get? b=some o->h'.get? b=some o)->Q (some v) {s with heap:=h',toks:=tk})->wpAny (model W.prog W.w) A (pyNext (.ref Ia)) Q E s
 done:∀g σ (s:Shared) (Q:Option Value->Shared->Prop) (E:Value->Shared->Prop),It xs.length s.heap->Inv W g σ s.heap->Rel g->je w σ True->g.O Ia=.no->g.B.get? Ia=none->
  (∀h' tk,(∀b o,b≠Ia->s.heap.get? b=some o->h'.get? b=some o)->Q none {s with heap:=h',toks:=tk})->wpAny (model W.prog W.w) A (pyNext (.ref Ia)) Q E s
 go:∀k (s:Shared) target v (Q:Unit->Shared->Prop) (E:Value->Shared->Prop),It k s.heap->Q () s->wpAny (model W.prog W.w) A (letOwnedTupleGo target (.ref Ia) v) Q E s
 self:∀k (s:Shared) (Q:Value->Shared->Prop) (E:Value->Shared->Prop),It k s.heap->Q (.ref Ia) s->wpAny (model W.prog W.w) A (pyIter (.ref Ia)) Q E s
section
variable{W:Wd}{N:Nm}{G:Own}{A:Around}{s:Shared}{g:Gh}{σ:St}{env:Env}{ê:ak}{d n aJ:Nat}{C:Cl}{Q:KV}
set_option backward.match.sparseCases true in
set_option tactic.hygienic true in
theorem KH{prog:Program}{w:World}{E:Value->Shared->Prop}{Ia:Addr}{o:Obj}{T:String}{vs:Array Value}{target:Expr}{v:Value}{Q:Unit->Shared->Prop}(ho:s.heap.get? Ia=some o)(hc:o.cls=.type T)(hd:o.data=.fields vs)
  (hT:(["enumerate", "zip", "dict_itemiterator", "dict_reverseitemiterator", "odict_iterator", "itertools.zip_longest", "itertools.pairwise"].contains T)=false) (q:Q () s):wpAny (model prog w) A (letOwnedTupleGo target (.ref Ia) v) Q E s:=by
 have key:∀a,wpAny (model prog w) A (do
   let o <-load Ia
   match o.cls,o.data with
   |.type n,.fields vs=>
    if["enumerate", "zip", "dict_itemiterator", "dict_reverseitemiterator", "odict_iterator", "itertools.zip_longest", "itertools.pairwise"].contains n&&vs[0]?==some (rawInt a)then
     rule "for.unpacks-the-owned-tuple"
     updateField Ia 0 .none
   |_,_=>pure ()) Q E s:=fun a=>by
  refine wpAny_bind (wpAny_load ho ?_);refine az (hc) ?_;refine az (hd) ?_;simp only[hT,Bool.false_and,Bool.false_eq_true,if_false];exact wpAny_pure q
 unfold letOwnedTupleGo;split
 ·split
  ·rename_i r a e;rcases e with _|_;exact key a
  ·exact wpAny_pure q
 ·split
  ·rename_i r a e;rcases e with _|_;exact key a
  ·exact wpAny_pure q
 ·exact wpAny_pure q
inductive Ah:ag->List D->Option (Nat×List D)->Prop
 |dat (l:List D):Ah (.d (.list l)) l none
 |cell (i:Nat) (r:List D):A8 i=false->Ah (.b i) r.reverse (some (i,r))
theorem wd{m:ag}{xs:List D}{w:Option (Nat×List D)}(S:Ah m xs w)(I:Inv W g σ s.heap){ax:Addr}(r:bG W g m (.ref ax))(h:je w σ True):∃ws,s.heap.IsList ax (List.toArray ws)/\cc W g (xs.map ag.d) ws:=by
 induction S using Ah.casesOn with
 |dat l=>
  refine nY (lx r) fun a vs as e ha r1=>?_;rcases e with _|_;exact⟨vs,bZ I.gM ha,u9 r1⟩
 |cell i r' hv=>
  obtain⟨e,_⟩:=h;refine lW (ie I e) fun p ws k e1 _ hg hr=>?_;refine bR (r) fun p' e2 e3=>?_;obtain rfl:=Option.some.inj (Option.some.inj (e1.symm.trans e2));rcases e3 with _|_;rw[jJ]at hr;exact⟨ws,fO hg,hr⟩
theorem KI{m:ag}{xs:List D}{w:Option (Nat×List D)}(S:Ah m xs w):ku m=false:=by
 induction S using Ah.casesOn with
 |dat l=>rfl
 |cell i r hv=>exact hv
theorem yG{α β:Type}{f:α->β}:∀{l:List α} {k:Nat} {x:α},aq l k=some x->aq (l.map f) k=some (f x)
 |_::_,0,_,e=>by rcases e with _|_;rfl
 |_::l,k+1,_,e=>yG (l:=l) e
theorem E6(hh:A.handled=none){m:ag}{xs:List D}{w:Option (Nat×List D)}(S:Ah m xs w){ax Ia:Addr}(qI:ax≠Ia):Cz W A w xs Ia (fun k h=>h.IsListIter Ia ax k) (fun g=>bG W g m (.ref ax)) where
 fr k h h' st kk:=st.at kk
 mono g g' k r:=k _ _ (KI S) r
 live k h st:=by obtain⟨o,ho,_⟩:=st;exact⟨o,ho⟩
 item k g σ s x Q E st I rel ok hO hB hx hQ:=by
  refine bR (wd S I rel ok) fun ws hl hr=>?_;refine bR (vW hr (yG hx)) fun v h1 h2=>?_;refine wpAny_pyNext_list_item st hl (x:=v) (by simpa using h1) fun h' KJ UR=>?_;exact hQ v h' s.toks h2 KJ fun b o hb e=>UR.extBut b o hb e
 done g σ s Q E st I rel ok hO hB hQ:=by
  refine bR (wd S I rel ok) fun ws hl hr=>?_;have e:=d6 hr;rw[List.length_map]at e;exact wpAny_pyNext_list_end hh st hl (by simp[e]) fun h' US=>hQ h' s.toks fun b o hb e=>US b o hb e
 go k s target v Q E st q:=by
  refine i8 (st) fun o ho hc hd=>?_;exact KH ho hc hd (by decide) q
 self k s Q E st q:=wpAny_pyIter_listiter st q
theorem CA(hh:A.handled=none){xs:List D}{ax Ia:Addr}(qI:ax≠Ia):Cz W A none xs Ia (fun k h=>h.IsTupleIter Ia ax k) (fun g=>bG W g (.d (.tuple xs)) (.ref ax)) where
 fr k h h' st kk:=st.at kk
 mono g g' k r:=k _ _ rfl r
 live k h st:=by obtain⟨o,ho,_⟩:=st;exact⟨o,ho⟩
 item k g σ s x Q E st I rel ok hO hB hx hQ:=by
  refine nY (gT rel) fun a vs as e ha r1=>?_;rcases e with _|_;refine bR (ou r1 hx) fun v h1 h2=>?_;refine wpAny_pyNext_tuple_item st (cC I.gM ha) (x:=v) (by simpa using h1) fun h' KJ UR=>?_;exact hQ v h' s.toks h2 KJ fun b o hb e=>UR.extBut b o hb e
 done g σ s Q E st I rel ok hO hB hQ:=by
  refine nY (gT rel) fun a vs as e ha r1=>?_;rcases e with _|_;have e:=readsAll_len r1;exact wpAny_pyNext_tuple_end hh st (cC I.gM ha) (by simp[e]) fun h' US=>hQ h' s.toks fun b o hb e=>US b o hb e
 go k s target v Q E st q:=by
  refine i8 (st) fun o ho hc hd=>?_;exact KH ho hc hd (by decide) q
 self k s Q E st q:=wpAny_pyIter_tupleiter st q
theorem H3{n k:Nat}{x:D}(h:aq (eL n) k=some x):k<n/\x=.int (k:Int):=by
 unfold eL at h;rw[u4,List.getElem?_map]at h;cases q:(List.range n)[k]? with
 |none=>rw[q]at h;cases h
 |some j=>
  rw[q]at h;obtain⟨h1,h2⟩:=List.getElem?_eq_some_iff.mp q;rw[List.length_range]at h1;rw[List.getElem_range]at h2;subst h2;rcases h with _|_;exact⟨h1,rfl⟩
theorem we(n:Nat):(eL n).length=n:=by unfold eL;rw[List.length_map,List.length_range]
theorem CB(hh:A.handled=none){n:Nat}{Ia:Addr}:Cz W A none (eL n) Ia (fun k h=>IsRangeIter h Ia (k:Int) ((n:Int)-(k:Int)) 1) (fun _=>True) where
 fr k h h' st kk:=kk _ st
 mono g g' k r:=trivial
 live k h st:=⟨_,st⟩
 item k g σ s x Q E st I rel ok hO hB hx hQ:=by
  obtain⟨pY,rfl⟩:=H3 hx;refine wpAny_pyNext_range_item st (by omega) fun h' KJ UR=>?_;refine hQ _ h' _ (ib _ _) ?_ fun b o hb e=>UR.extBut b o hb e;have e2:(n:Int)-((k+1:Nat):Int)=(n:Int)-(k:Int)-1:=by push_cast;omega
  have e1:((k+1:Nat):Int)=(k:Int)+1:=by push_cast;rfl
  rw[e2,e1];exact KJ
 done g σ s Q E st I rel ok hO hB hQ:=by
  have e:=we n;rw[e]at st;exact wpAny_pyNext_range_end hh st (by omega) fun h' US=>hQ h' s.toks fun b o hb e=>US b o hb e
 go k s target v Q E st q:=by
  exact KH st rfl rfl (by decide) q
 self k s Q E st q:=wpAny_pyIter_rangeiter st q
noncomputable def KN(W:Wd)(A:Around)(env:Env)(ê:ak)(g:Gh)(σ:St)(s:Shared)(K:List D->Option (Nat×List D)->St->Prop):Value->Shared->Prop:=fun it pR=>
 ∃xs w cD ab bQ Ia It Rel,it=.ref Ia/\K xs w ab/\dO W env ê g σ s cD ab bQ/\Cz W A w xs Ia It Rel/\It 0 pR.heap/\Rel cD/\bQ.heap.get? Ia=none/\xs.length<=ah/\
  (∀b o,bQ.heap.get? b=some o->pR.heap.get? b=some o)/\pR.gens=bQ.gens/\pR.os=bQ.os/\je w ab True
theorem KP(h:Heap):h.get? (h.objs.size+1)=none:=by
 cases q:h.get? (h.objs.size+1)with
 |none=>rfl
 |some o=>exact absurd (Heap.lt_size q) (Nat.not_lt.mpr (Nat.le_succ _))
theorem KQ(H:iH W N G)(IH:∀m,m<=n->eh W d (ev G C n) (aH N m))(p8:aJ<=n)(a:iu d 2 A)(I:Inv W g σ s.heap)(Ce:aS W g env ê s.heap){it:E}{x:Expr}{K:List D->Option (Nat×List D)->St->Prop}(hc:aH N aJ env.scope.names it x=true)
  (q:mq (ev G C n) it ê σ K):wpAny (model W.prog W.w) A (eval x env) (fun v s'=>wpAny (model W.prog W.w) A (pyIter v) (KN W A env ê g σ s K) NE s') NE s:=by
 unfold mq at q;rcases hz:Jz it with _|e<;>rw[hz]at q
 case some=>
  have hz:=J0 hz;subst hz
  induction aJ using Nat.casesAuxOn with
  |zero=>cases hc
  |succ aJ=>
  refine gX hc fun z np xs pos hc=>jf hc fun y hc=>iy hc fun h1 h2 h3=>?_;refine nZ (cX h1) fun ui hd _ _=>?_;subst ui;refine rJ H (IH aJ (Nat.le_of_succ_le p8)) a I Ce hd h2 H.br.1 H.br.2 (by exact h3) q fun m v g' aF s' q r nx=>?_;refine bc fun hn=>?_;revert r;refine cN q fun z q=>t9 q fun k q=>Jv q fun k q r=>hn ?_
  · refine aK r fun t=>?_
    ·obtain⟨hb,q⟩:=dv q;refine call_range_1 ?_;have hr:=IsRange.new s'.heap 0 (Int.ofNat k) 1 s'.toks t (s'.toks+1);have hk:(k:Int)<=1000000:=by have:k<=1000000:=hb;omega
     refine wpAny_pyIter_range (s:={s' with heap:=s'.heap.push {cls:=.type "range",data:=.fields #[.int 0 s'.toks,.int (Int.ofNat k) t,.int 1 (s'.toks+1)]},toks:=s'.toks+1+1}) hr (small_one (by decide) (by decide) (by show -(2 ^ 62)<=(k:Int);omega) (by show(k:Int)<2 ^ 62;omega)) ?_;have e1:Builtin.Range.rangeSize 0 (Int.ofNat k) 1=(k:Int):=by
      rw[rangeSize_one];show(if(0:Int)<(k:Int)then(k:Int)-0 else 0)=_;split<;>omega
     refine az (e1) ?_;refine⟨eL k,none,g',aF,s',s'.heap.objs.size+1,_,_,?_,q,nx,CB a.handled (n:=k),?_,trivial,KP _,by rw[we];exact hb,fun b o e=>Heap.get?_push_of_some _ (Heap.get?_push_of_some _ e),rfl,rfl,trivial⟩
     ·show Value.ref (s'.heap.push _).objs.size=_;rw[Heap.size_push]
     ·have:=Heap.get?_push_size (s'.heap.push {cls:=.type "range",data:=.fields #[.int 0 s'.toks,.int (Int.ofNat k) t,.int 1 (s'.toks+1)]}) (o:={cls:=.type "range_iterator",data:=.fields #[rawInt 0,rawInt (k:Int),rawInt 1]}) rfl;rw[Heap.size_push]at this;show Heap.get? _ _=_;have e0:((k:Int)-((0:Nat):Int))=(k:Int):=by omega
      refine az (e0) ?_;exact this
 case none=>
  refine aR.go (IH aJ p8 it x env ê g σ s _ A hc a I Ce q) fun m v g' aF s' q r nx=>?_;have lst:∀{m:ag} {xs:List D} {w:Option (Nat×List D)},Ah m xs w->bG W g' m v->je w aF True->xs.length<=ah->K xs w aF->wpAny (model W.prog W.w) A (pyIter v) (KN W A env ê g σ s K) NE s':=fun{m xs w} S r ok hb hk=>by
    have⟨ax,e⟩:∃ax,v=.ref ax:=by
     induction S using Ah.casesOn with
     |dat l=>obtain⟨a,_,_,e,_⟩:=lx r;exact⟨a,e⟩
     |cell i r' hv=>obtain⟨p,_,e⟩:=r;exact⟨_,e⟩
    subst e;refine bR (wd S nx.inv r ok) fun ws hl hr=>?_;have pY:ax<s'.heap.objs.size:=by obtain⟨_,e,_⟩:=hl;exact Heap.lt_size e
    refine wpAny_pyIter_list hl ?_;exact⟨xs,w,g',aF,s',s'.heap.objs.size,_,_,rfl,hk,nx,E6 a.handled S (Nat.ne_of_lt pY),⟨_,Heap.get?_push_size _ rfl,rfl,rfl⟩,r,cY _,hb,fun b o e=>Heap.get?_push_of_some _ e,rfl,rfl,ok⟩
  refine bc fun hn=>?_;have lst:=fun{m} {xs} {w} S r b c d=>hn (@lst m xs w S r b c d);have q:Z7 m aF K:=q
  induction m using ag.casesOn with
  |d x=>
   have q:Z6 x fun l=>K l none aF:=q
   induction x using PyData.casesOn with
   |list l=>
    obtain⟨hb,q⟩:=dv q;exact lst (.dat l) r trivial hb q
   |tuple l=>
    obtain⟨hb,q⟩:=dv q;refine hn ?_;refine nY (gT r) fun ax vs as nR ha r1=>?_;subst nR;have WO:=cC nx.inv.gM ha;have pY:ax<s'.heap.objs.size:=by obtain⟨_,e,_⟩:=WO;exact Heap.lt_size e
    refine wpAny_pyIter_tuple (EN WO) ?_;exact⟨l,none,g',aF,s',s'.heap.objs.size,_,_,rfl,q,nx,CA a.handled (Nat.ne_of_lt pY),⟨_,Heap.get?_push_size _ rfl,rfl,rfl⟩,r,cY _,hb,fun b o e=>Heap.get?_push_of_some _ e,rfl,rfl,trivial⟩
   |_=>exact nf q
  |b i=>
    refine Bi q fun hv q=>qK q fun c rr hs q=>?_;revert hs;refine gW q fun q hs=>?_;obtain⟨hb,q⟩:=dv q;exact lst (.cell i rr hv) r ⟨hs,trivial⟩ (by rw[List.length_reverse];exact hb) q
  |_=>exact nf q
end
section
variable{W:Wd}{N:Nm}{G:Own}{A:Around}{s:Shared}{g cD:Gh}{σ ab:St}{env:Env}{ê:ak}{d n aJ:Nat}{C:Cl}{Q:KV}{h h' jC:Heap}
theorem qA{env:Env}:∀(names:List (Str×NameKind)) (cs:List (Str×Addr)),(∀x,(x,NameKind.free)∈names->∃c,env.cells.lookup x=some c)->
  ∃cl,(forIn names cs fun(x:Str×NameKind) (r:List (Str×Addr))=>(if(x.2==NameKind.free)=true then do let a <-cellOf env x.1;pure (ForInStep.yield ((x.1,a)::r))else pure (ForInStep.yield r):Sem (ForInStep (List (Str×Addr)))))=pure cl/\
   (∀x c,cl.lookup x=some c->cs.lookup x=some c\/((x,NameKind.free)∈names/\env.cells.lookup x=some c))/\(∀x,(x,NameKind.free)∈names->∃c,cl.lookup x=some c)/\(∀x,(∃c,cs.lookup x=some c)->∃c,cl.lookup x=some c)
 |[],cs,_=>⟨cs,rfl,fun x c e=>.inl e,(fun x hx=>by rcases hx with _|_),fun x h=>h⟩
 |(y,k)::names,cs,hf=>by
  rw[List.forIn_cons];by_cases hk:k=.free
  ·subst hk;obtain⟨c,hc⟩:=hf y (.head _);refine yZ (qA names ((y,c)::cs) fun x hx=>hf x (.tail _ hx)) fun cl e h1 h2 h3=>?_;refine⟨cl,?_,fun x c' hx=>?_,fun x hx=>?_,fun x hx=>?_⟩
   ·have:cellOf env y=pure c:=by unfold cellOf;rw[hc]
    simp only[beq_self_eq_true,if_true];show(cellOf env y>>= _)>>= _=_;refine az (this) ?_;exact e
   ·rcases h1 x c' hx with q|⟨q,q'⟩
    ·rw[List.lookup_cons]at q;cases z:x==y with
     |true=>rw[z]at q;rcases q with _|_;exact .inr ⟨by rw[eq_of_beq z];exact .head _,by rw[eq_of_beq z];exact hc⟩
     |false=>rw[z]at q;exact .inl q
    ·exact .inr ⟨.tail _ q,q'⟩
   ·rcases List.mem_cons.mp hx with q|q
    ·rcases q with _|_;exact h3 y ⟨c,by rw[List.lookup_cons,beq_self_eq_true]⟩
    ·exact h2 x q
   ·obtain⟨c',q⟩:=hx;refine h3 x ?_;refine az (List.lookup_cons) ?_;cases z:x==y with
    |true=>exact⟨c,rfl⟩
    |false=>exact⟨c',q⟩
  ·refine yZ (qA names cs fun x hx=>hf x (.tail _ hx)) fun cl e h1 h2 h3=>?_;refine⟨cl,?_,fun x c' hx=>?_,fun x hx=>?_,h3⟩
   ·have:(k==NameKind.free)=false:=by simpa using hk
    simp only[this,Bool.false_eq_true,if_false];exact e
   ·rcases h1 x c' hx with q|⟨q,q'⟩
    ·exact .inl q
    ·exact .inr ⟨.tail _ q,q'⟩
   ·rcases List.mem_cons.mp hx with q|q
    ·rcases q with _|_;exact absurd rfl hk
    ·exact h2 x q
theorem yH{scope:Scope}{env:Env}(hk:env.scope.kind=.function):(relabel scope env).names=pN env.scope.names scope.names:=by
 unfold relabel pN;refine List.map_congr_left fun p hp=>?_;obtain⟨x,k⟩:=p;show(if(k==NameKind.free&&env.scope.kind==.function&&env.kindOf x==some .cell)=true then(x,NameKind.cell)else(x,k))=_;rw[hk,f7 rfl];unfold ze;by_cases e:k=.free
 ·subst e;dsimp only;cases q:dF env.scope.names x with
  |none=>rfl
  |some z=>rcases z with _|_<;>rfl
 ·have:(k==NameKind.free)=false:=by simpa using e
  refine az (this) ?_;rcases k with _|_<;>first|rfl|exact absurd rfl e
theorem oE{y x:Str}{k:NameKind}{l:Sc}:dF ((y,k)::l) x=match eZ y x with|true=>some k|false=>dF l x:=rfl
theorem KR{ve:Sc}{y:Str}{k:NameKind}:(ze ve (y,k)).1=y:=by
 unfold ze;dsimp only;split<;>first|rfl|(split<;>rfl)
theorem lz{ve:Sc}{x:Str}:∀{sc:Sc},dF (pN ve sc) x=match dF sc x with
  |some .free=>(match dF ve x with|some .cell=>some .cell|_=>some .free)
  |k=>k
 |[]=>rfl
 |(y,k)::sc=>by
  have ih:=lz (ve:=ve) (x:=x) (sc:=sc);have e0:pN ve ((y,k)::sc)=(y,(ze ve (y,k)).2)::pN ve sc:=by
   have:ze ve (y,k)=(y,(ze ve (y,k)).2):=Prod.ext KR rfl;show ze ve (y,k)::_=_;rw[<-this];rfl
  refine az (e0) ?_;refine az (oE) ?_;refine az (oE) ?_;cases z:eZ y x with
  |false=>exact ih
  |true=>
   have:=bj.mp z;subst this;unfold ze;dsimp only;rcases k with _|_<;>first|rfl|skip
   dsimp only;cases dF ve y with
   |none=>rfl
   |some q=>rcases q with _|_<;>rfl
set_option tactic.hygienic true in
theorem pz:∀{fv:List Str} {x:Str} {m:ag},dE x (envOf fv ê)=some m->dE x ê=some m/\x∈fv
 |y::fv,x,m,e=>by
  unfold envOf at e;split at e
  ·rename_i v hv;unfold dE at e;split at e
   ·rename_i z;have:=bj.mp z;dsimp only at this;subst this;rcases e with _|_;exact⟨hv,.head _⟩
   ·obtain⟨a,b⟩:=pz e;exact⟨a,.tail _ b⟩
  ·obtain⟨a,b⟩:=pz e;exact⟨a,.tail _ b⟩
theorem aS.sub{d9:ak}(Ce:aS W g env ê h)(k:∀x m,dE x d9=some m->dE x ê=some m):aS W g env d9 h:=
 ⟨Ce.kind,Ce.fr,Ce.ns,fun x m e=>Ce.vars x m (k x m e),Ce.cells,Ce.inj,Ce.glob,Ce.all⟩
theorem Inv.Yx(I:Inv W g σ h){q:Addr}(hq:g.O q=.fr):Inv W {g with O:=cM g.O q .no} σ h:=by
 have rm:RM W g {g with O:=cM g.O q .no}:=RM.same;have tg:∀(tag:Tag) (b:Addr),tag≠.fr->g.O b=tag->cM g.O q .no b=tag:=fun tag b ne e=>by
  rw[cF];exact e;intro z;rw[z,hq]at e;exact ne e.symm
 refine⟨I.fR,I.gM,fun a o e=>?_,fun a e=>?_,I.qM,I.qf,fun i o e=>?_,I.cn,fun i o e=>?_,I.sb,I.DS,I.DT⟩
 ·show cM g.O q .no a=.no;by_cases z:a=q
  ·rw[z];exact cZ ..
  ·rw[cF z];exact I.lM a o e
 ·show cM g.O q .no a=.no;by_cases z:a=q
  ·rw[z];exact cZ ..
  ·rw[cF z];exact I.live a e
 ·refine bR (I.cb i o e) fun p e1 c=>?_;exact⟨p,e1,c.rm rm (tg _ _ fun z=>nomatch z) (tg _ _ fun z=>nomatch z) (fun _ _ e=>e) (fun _ _ e=>e)⟩
 ·refine i8 (I.ct i o e) fun a e1 c z=>?_;exact⟨a,e1,c.rm rm (tg _ _ fun z=>nomatch z) (tg _ _ fun z=>nomatch z) (fun _ _ e=>e) (fun _ _ e=>e),z⟩
theorem Inv.Yy(I:Inv W g σ h){q:Addr}(hq:g.O q=.no)(hB:g.B.get? q=none)(hl:∃o,h.get? q=some o):Inv W {g with O:=cM g.O q .fr} σ h:=by
 have rm:RM W g {g with O:=cM g.O q .fr}:=RM.same;have tg:∀(tag:Tag) (b:Addr),tag≠.no->g.O b=tag->cM g.O q .fr b=tag:=fun tag b ne e=>by
  rw[cF];exact e;intro z;rw[z,hq]at e;exact ne e.symm
 refine⟨I.fR,I.gM,fun a o e=>?_,fun a e=>?_,I.qM,I.qf,fun i o e=>?_,I.cn,fun i o e=>?_,I.sb,I.DS,I.DT⟩
 ·show cM g.O q .fr a=.no;by_cases z:a=q
  ·rw[z,hB]at e;rcases e with _|_
  ·rw[cF z];exact I.lM a o e
 ·show cM g.O q .fr a=.no;by_cases z:a=q
  ·obtain⟨o,e'⟩:=hl;rw[z]at e;rw[e']at e;rcases e with _|_
  ·rw[cF z];exact I.live a e
 ·refine bR (I.cb i o e) fun p e1 c=>?_;exact⟨p,e1,c.rm rm (tg _ _ fun z=>nomatch z) (tg _ _ fun z=>nomatch z) (fun _ _ e=>e) (fun _ _ e=>e)⟩
 ·refine i8 (I.ct i o e) fun a e1 c z=>?_;exact⟨a,e1,c.rm rm (tg _ _ fun z=>nomatch z) (tg _ _ fun z=>nomatch z) (fun _ _ e=>e) (fun _ _ e=>e),z⟩
theorem gc.tag{O:Addr->Tag}{g':Gh}{aF:St}(P:gc g σ h g' aF h'){q:Addr}{t:Tag}(hn:h.get? q=none):gc g σ h {g' with O:=cM g'.O q t} aF h':=by
 refine⟨P.bm,fun b o e f=>?_,fun b o e f=>?_,P.lb,P.lt,P.gm⟩
 ·refine nX (P.fo b o e f) fun x y z=>?_;exact⟨x,by show cM g'.O q t b=_;rw[cF (fun z=>by rw[z,hn]at e;rcases e with _|_)];exact y,z⟩
 ·obtain⟨x,y⟩:=P.co b o e f;exact⟨x,by show cM g'.O q t b=_\/cM g'.O q t b=_;rw[cF (fun z=>by rw[z,hn]at e;rcases e with _|_)];exact y⟩
theorem lS{w:Option (Nat×List D)}{P:Prop}(h:je w σ P):je w σ True/\P:=by
 unfold je at h⊢;split at h
 ·exact⟨trivial,h⟩
 ·exact⟨⟨h.1,trivial⟩,h.2⟩
theorem E7{v:ag}{P:Prop}(h:uY v P):ku v=false/\P:=by
 unfold uY at h;split at h
 ·rename_i e;exact⟨e,h⟩
 ·exact h.elim
theorem wg{g':Gh}{aF:St}(P:gc g σ h g' aF h'):∀{l:List ag} {ws:List Value},(∀m∈l,ku m=false)->cc W g l ws->cc W g' l ws:=by
 intro l0
 induction l0 with
 |nil=>
  intro l1;rcases l1 with _|⟨y0,nK⟩
  ·intro _ _;exact trivial
  ·intro _ z;exact z.elim
 |cons x0 Ji ih=>
  intro l1;rcases l1 with _|⟨y0,nK⟩
  ·intro _ z;exact z.elim
  ·rintro hv ⟨a,b⟩
   exact⟨a.mono P (fun z=>by rw[hv _ (.head _)]at z;rcases z with _|_),ih (fun m hm=>hv m (.tail _ hm)) b⟩
structure KS(W:Wd)(xs:List D)(w:Option (Nat×List D))(It:Nat->Heap->Prop)(Rel:Gh->Prop)(Ia Cf Da:Addr)(cD:Gh)(ab:St)(bQ:Shared)(K:List D->List ag->St->Prop)(k:Nat)(s:Shared):Prop where
 ex:∃ys acc g σ ws nD mC,xs.drop k=ys/\k<=xs.length/\K ys acc σ/\Inv W g σ s.heap/\g.O Cf=.fr/\s.heap.Ns Cf mC/\g.O Ia=.no/\g.B.get? Ia=none/\It k s.heap/\g.O Da=.no/\g.B.get? Da=none/\
  s.heap.get? Da=some (eu ws nD)/\cc W g acc.reverse ws/\acc.length<=k/\(∀m∈acc,ku m=false)/\gc cD ab bQ.heap g σ s.heap/\Rel g
 gens:s.gens=bQ.gens
 os:s.os=bQ.os
theorem nA{x:Str}{k:NameKind}:∀{sc:Sc},dF sc x=some k->(x,k)∈sc
 |(y,k')::sc,h=>by
  rw[oE]at h;split at h
  ·rename_i e;rcases h with _|_;rw[<-bj.mp e];exact .head _
  ·exact .tail _ (nA h)
theorem oF{ve sc:Sc}{tg:Str}{fv:List Str}(h:sy ve sc tg fv=true):(∀p∈sc,p.2≠.cell)/\(∀p∈sc,p.2=.local->sc.lookup p.1=some .local)/\(∀x,(x,NameKind.free)∈sc->dF ve x=some .cell\/dF ve x=some .free)/\dF sc tg=some .local/\(∀x∈fv,dF sc x=some .free):=by
 unfold sy at h;simp only[Bool.and_eq_true,List.all_eq_true]at h;refine bc fun bf=>?_;obtain⟨⟨h1,h2⟩,h3⟩:=h;refine bf ?_;refine⟨fun p hp e=>?_,fun p hp e=>?_,fun x hx=>?_,?_,fun x hx=>?_⟩
 ·have:=h1 p hp;rw[e]at this;rcases this with _|_
 ·have:=h1 p hp;rw[e]at this;simp only[Bool.and_eq_true]at this;have:=this.2;split at this
  ·rename_i q;rw[sV]at q;exact q
  ·rcases this with _|_
 ·have:=h1 _ hx;dsimp only at this;split at this
  ·rename_i q;exact .inl q
  ·rename_i q;exact .inr q
  ·rcases this with _|_
 ·split at h2
  ·rename_i q;exact q
  ·rcases h2 with _|_
 ·have:=h3 x hx;split at this
  ·rename_i q;exact q
  ·rcases this with _|_
theorem H4{scope:Scope}{cl:List (Str×Addr)}{Cf:Addr}{tg:Str}{fv:List Str}{UT:D}{QV:Value}{m:Str->Option Value}(Ce:aS W g env (envOf fv ê) h)(E8:sy env.scope.names scope.names tg fv=true)(hk:scope.kind=.function)
  (h1:∀x c,cl.lookup x=some c->(x,NameKind.free)∈scope.names/\env.cells.lookup x=some c) (h2:∀x,(x,NameKind.free)∈scope.names->∃c,cl.lookup x=some c) (hC:∀x c,env.cells.lookup x=some c->c≠Cf)
  (Jl:g.O Cf=.fr) (hn:h.Ns Cf m) (hm:m tg=some QV) (hr:dP g.B UT QV):aS W g (compEnvC scope cl Cf env) ((tg,.d UT)::envOf fv ê) h:=by
 refine MJ (oF E8) fun s1 s2 s3 s4 s5=>?_;have kd:∀x,(compEnvC scope cl Cf env).kindOf x=dF (pN env.scope.names scope.names) x:=fun x=>by
  have:(compEnvC scope cl Cf env).scope.names=pN env.scope.names scope.names:=yH Ce.kind;rw[f7 this]
 have inn:∀x,(x,NameKind.free)∈scope.names->dF scope.names x=some .free->(compEnvC scope cl Cf env).kindOf x=some .cell\/(compEnvC scope cl Cf env).kindOf x=some .free:=fun x _ e=>by
  rw[kd,lz,e];dsimp only;split
  ·exact .inl rfl
  ·exact .inr rfl
 refine⟨hk,Jl,⟨m,hn⟩,fun x mv e=>?_,fun x c e=>?_,fun x y c e e'=>Ce.inj x y c (h1 x c e).2 (h1 y c e').2,Ce.glob,fun x e=>?_⟩
 ·unfold dE at e;split at e
  ·rename_i z;have:=bj.mp z;dsimp only at this;subst this;rcases e with _|_;refine⟨QV,.inl ⟨?_,m,hn,hm⟩,hr⟩;rw[kd,lz,s4]
  ·refine bR (Ce.vars x mv e) fun v hh r=>?_;refine⟨v,?_,r⟩;have hx:=(pz e).2;have hf:=nA (s5 x hx);have ok:=s3 x hf;rcases hh with⟨k,_⟩|⟨k,c,ec,ic⟩
   ·rw[f7 rfl]at k;rcases ok with q|q<;>rw[q]at k<;>rcases k with _|_
   ·obtain⟨c',ec'⟩:=h2 x hf;have:=(h1 x c' ec').2;rw[ec]at this;cases this;exact .inr ⟨inn x hf (s5 x hx),c,ec',ic⟩
 ·have q:=(h1 x c e).2;refine bc fun bf=>?_;obtain⟨o1,ne,vo,ic⟩:=Ce.cells x c q;refine bf ?_;exact⟨o1,hC x c q,vo,ic⟩
 ·rw[kd,lz]at e;cases q:dF scope.names x with
  |none=>rw[q]at e;rcases e with e|e<;>cases e
  |some k=>
   induction k using NameKind.casesOn with
   |free=>exact h2 x (nA q)
   |cell=>exact absurd rfl (s1 _ (nA q))
   |_=>rw[q]at e;rcases e with e|e<;>rcases e with _|_
theorem nB{α:Type}:∀{xs:List α} {k:Nat} {x:α} {ys:List α},xs.drop k=x::ys->aq xs k=some x/\xs.drop (k+1)=ys/\k<xs.length
 |[],0,_,_,e=>by cases e
 |[],_+1,_,_,e=>by cases e
 |y::xs,0,_,_,e=>by rcases e with _|_;exact⟨rfl,rfl,Nat.succ_pos _⟩
 |y::xs,k+1,_,_,e=>by
  refine nX (nB (xs:=xs) (k:=k) e) fun a b c=>?_;exact⟨a,b,Nat.succ_lt_succ c⟩
theorem tP{α:Type}{xs:List α}{k:Nat}(e:xs.drop k=[])(h:k<=xs.length):k=xs.length:=by
 have:=congrArg List.length e;rw[List.length_drop,List.length_nil]at this;exact Nat.le_antisymm (ai h) (aZ (il this) (DJ (xs.length) (k)))
theorem opq{α:Type}(L:Nat->α->Prop)(N:Nat):∃IV:Nat->α->Prop,(∀k s,L k s->IV (N-k) s)/\∀nn s,IV nn s->∃k,nn=N-k/\L k s:=
 ⟨fun nn s=>∃k,nn=N-k/\L k s,fun k _ h=>⟨k,rfl,h⟩,fun _ _ h=>h⟩
theorem H5(H:iH W N G)(IH:∀m,m<=n->eh W d (ev G C n) (aH N m))(p8:aJ<=n)(a:iu d 2 A){elt:E}{y:Expr}{tg:Str}{p pos:Pos}{cond:Option E}{ifs:List Expr}{iter:Expr}{scope:Scope}{cl:List (Str×Addr)}{fv:List Str}{xs:List D}{w:Option (Nat×List D)}
  {Ia Cf Da:Addr} {It:Nat->Heap->Prop} {Rel:Gh->Prop} {bQ:Shared} {Kf:List ag->St->Prop} {R:Result->Shared->Prop}
  (E8:sy env.scope.names scope.names tg fv=true) (Pd:scope.kind=.function) (h1:∀x c,cl.lookup x=some c->(x,NameKind.free)∈scope.names/\env.cells.lookup x=some c) (h2:∀x,(x,NameKind.free)∈scope.names->∃c,cl.lookup x=some c)
  (he:aH N aJ (pN env.scope.names scope.names) elt y=true) (xu:vj (aH N aJ (pN env.scope.names scope.names)) cond ifs=true)
  (S:Cz W A w xs Ia It Rel) (hlen:xs.length<=ah) (Ce:aS W cD env (envOf fv ê) bQ.heap) (hv:iM (envOf fv ê)=false)
  (nI:bQ.heap.get? Ia=none) (nC:bQ.heap.get? Cf=none) (nD:bQ.heap.get? Da=none) (ne1:Ia≠Cf) (ne2:Ia≠Da) (ne3:Cf≠Da) {s':Shared}
  (L:KS W xs w It Rel Ia Cf Da cD ab bQ (fun ys acc σ=>kb (ev G C n) G.tab n elt tg cond w (envOf fv ê) ys acc σ Kf) 0 s')
  (fin:∀s' g' aF acc ws nD mC,Kf acc aF->Inv W g' aF s'.heap->g'.O Cf=.fr->s'.heap.Ns Cf mC->g'.O Da=.no->g'.B.get? Da=none->s'.heap.get? Da=some (eu ws nD)->cc W g' acc ws->gc cD ab bQ.heap g' aF s'.heap->s'.gens=bQ.gens->s'.os=bQ.os->R (.ok .next) s'):
  codeAny (model W.prog W.w) A (.compLoop (.ListComp y [⟨.Name tg p,iter,ifs,0⟩] scope pos) 0 (.ref Ia) (.ref Da) (compEnvC scope cl Cf env)) R s':=by
 have hC:∀x c,env.cells.lookup x=some c->c≠Cf:=fun x c e z=>by
  obtain⟨_,_,vo,o,ho,_⟩:=Ce.cells x c e;rw[z,nC]at ho;rcases ho with _|_
 have UU:(compEnvC scope cl Cf env).scope.names=pN env.scope.names scope.names:=yH Ce.kind;have htg:(compEnvC scope cl Cf env).kindOf tg=some .local:=by
  rw[f7 UU,lz,(oF E8).2.2.2.1]
 obtain⟨IV,SH,Yz⟩:=opq (KS W xs w It Rel Ia Cf Da cD ab bQ (fun ys acc σ=>kb (ev G C n) G.tab n elt tg cond w (envOf fv ê) ys acc σ Kf)) (xs.length+1);refine codeAny_compLoop_tests IV ?_ (xs.length+1) (SH 0 s' L);intro nn s' UW;refine bc fun bf=>?_;obtain⟨k,rfl,⟨⟨ys,acc,g',aF,ws,WQ,mC,SI,hk,q,I,Jl,H6,CC,H7,Pe,Pf,SJ,UX,H8,wh,H9,P,Ai⟩,hg,ho⟩⟩:=Yz nn s' UW;refine bf ?_;clear bf UW L
 induction ys using List.casesOn with
 |nil=>
  obtain⟨ok,q⟩:=lS (show je w aF (Kf acc.reverse aF)from q);have:=tP SI hk;subst this;refine S.done g' aF s' _ _ Pe I Ai ok CC H7 fun h' tk keep=>?_;have I':=I.drop (h':=h') CC H7 keep fun b e hb=>by
   cases z:s'.heap.get? b with
   |none=>rfl
   |some o=>rw[keep b o hb z]at e;rcases e with _|_
  exact fin _ g' aF acc.reverse ws WQ mC q I' Jl (Ns.at H6 fun o e=>keep _ o (Ne.symm ne1) e) Pf SJ (keep _ _ (Ne.symm ne2) UX) H8 (P.drop nI keep) hg ho
 |cons x ys=>
  refine nX (nB SI) fun hx Nr pY=>?_;obtain⟨ok,q⟩:=lS q;refine S.item k g' aF s' x _ _ Pe I Ai ok CC H7 hx fun v h' tk QU KU keep=>?_;have I1:=I.drop (h':=h') CC H7 keep fun b e hb=>by
   cases z:s'.heap.get? b with
   |none=>rfl
   |some o=>rw[keep b o hb z]at e;rcases e with _|_
  have P1:=P.drop nI keep;have YA:h'.Ns Cf mC:=Ns.at H6 fun o e=>keep _ o (Ne.symm ne1) e;refine wpAny_assign_Name (wpAny_storeName_local htg YA (fun KW Ib sb=>?_) (by simp[compEnvC,relabel,Pd]));have Gu:∀b o,b≠Cf->h'.get? b=some o->KW.get? b=some o:=fun b o hb e=>sb.extBut b o hb e;have I2:Inv W g' aF KW:=I1.Sz Jl Gu (by obtain⟨o,_,_,ho,_⟩:=Ib;exact⟨o,ho⟩);have P2:=P1.drop nC Gu;have YB:aS W g' env (envOf fv ê) KW:=Ce.post P2 fun z=>by rw[hv]at z;rcases z with _|_
  have Ci:aS W g' (compEnvC scope cl Cf env) ((tg,.d x)::envOf fv ê) KW:=H4 YB E8 Pd h1 h2 hC Jl Ib (by simp) QU;have hD2:KW.get? Da=some (eu ws WQ):=Gu _ _ (Ne.symm ne3) (keep _ _ (Ne.symm ne2) UX);have CD:It (k+1) KW:=S.fr _ _ _ KU fun o e=>Gu _ _ ne1 e;have body:∀(g3:Gh) (nS:St) (s3:Shared) (E':Value->Shared->Prop),dO W (compEnvC scope cl Cf env) ((tg,.d x)::envOf fv ê) g' aF {s' with heap:=KW,toks:=tk+1} g3 nS s3->
    (ev G C n elt ((tg,.d x)::envOf fv ê) nS fun v ab=>fz v ab fun v' au=>uY v' (kb (ev G C n) G.tab n elt tg cond w (envOf fv ê) ys (v'::acc) au Kf))->
    wpAny (model W.prog W.w) A (eval y (compEnvC scope cl Cf env)) (fun x YC=>wpAny (model W.prog W.w) A (call (.builtin "list.append") [.ref Da,x]) (fun _ YD=>∃m,m<xs.length+1-k/\IV m YD) E' YC) E' s3:=by
   intro g3 nS s3 E' nx q3;refine wpAny_mono (aR.go (IH aJ p8 elt y _ _ g3 nS s3 _ A (by rw[UU];exact he) a nx.inv nx.bJ q3) fun m v4 g4 WR s4 q4 r4 HZ=>?_) (fun _ _ z=>z) fun _ _ z=>z.elim;refine lW (yE HZ.inv HZ.bJ r4 q4) fun m' g5 YE q5 r5 nt5 WS=>?_;obtain⟨hv5,q6⟩:=E7 q5;have NX:=(nx.trans HZ).trans WS;obtain⟨d1,d2,d3⟩:=NX.post.fo Da _ hD2 (by rw[Pf];trivial);obtain⟨oI,MB⟩:=S.live _ _ CD;obtain⟨i1,i2,i3⟩:=NX.post.fo Ia _ MB (by rw[CC];trivial);refine qd (id Ib) fun oC _ _ KX _=>?_;have KX:KW.get? Cf=some oC:=KX;obtain⟨c1,c2,c3⟩:=NX.post.fo Cf _ KX (by rw[Jl];trivial);have hz:ws.toArray.size<=sizeLine:=by
    have:=d6 H8;rw[List.length_reverse]at this;refine az (List.size_toArray) ?_;refine az (this) ?_;exact eH (Nat.le_trans wh (Nat.le_trans hk hlen))
   refine append_at d1 (fun h5 sb5 hD5=>?_) hz;have CE:∀b o,b≠Da->s4.heap.get? b=some o->h5.get? b=some o:=fun b o hb e=>sb5.extBut b o hb e;have I5:=WS.inv.drop (h':=h5) (d2.trans Pf) (d3.trans SJ) CE fun b e hb=>by
    cases z:s4.heap.get? b with
    |none=>rfl
    |some o=>rw[CE b o hb z]at e;rcases e with _|_
   have RM:∀m v,ku m=false->bG W g' m v->bG W g5 m v:=fun m v hm r=>r.mono NX.post (fun z=>by rw[hm]at z;rcases z with _|_);refine⟨xs.length+1-(k+1),by omega,SH (k+1) _ ⟨⟨ys,m'::acc,g5,YE,ws++[v4],WQ+1,_,Nr,pY,q6,I5,c2.trans Jl,Ns.at (h:=s4.heap) (Ns.at Ib fun o e=>by rw[KX]at e;rcases e with _|_;exact c1) (fun o e=>CE _ _ ne3 e),i2.trans CC,i3.trans H7,
    S.fr _ _ _ CD (fun o e=>by rw[MB]at e;rcases e with _|_;exact CE _ _ ne2 i1),d2.trans Pf,d3.trans SJ,?_,?_,?_,?_,(P2.trans NX.post).drop nD CE,S.mono _ _ RM Ai⟩,?_,?_⟩⟩
   ·rw[hD5,List.push_toArray]
   ·refine az (List.reverse_cons) ?_;exact kY (wg NX.post (fun m hm=>H9 m (List.mem_reverse.mp hm)) H8) ⟨r5,trivial⟩
   ·exact Nat.succ_le_succ wh
   ·intro m hm;rcases List.mem_cons.mp hm with rfl|hm
    ·exact hv5
    ·exact H9 m hm
   ·exact NX.gens.trans hg
   ·exact NX.os.trans ho
  have Jk:dO W (compEnvC scope cl Cf env) ((tg,.d x)::envOf fv ê) g' aF {s' with heap:=KW,toks:=tk+1} g' aF {s' with heap:=KW,toks:=tk+1}:=dO.refl I2 Ci
  induction cond using Option.casesOn with
  |none=>
   induction ifs using List.casesOn with
   |cons _ _=>exact ff xu
   |nil=>
    refine wpAny_tests_nil ?_;simp only[if_true];exact body g' aF _ _ Jk q
  |some c=>
   induction ifs using List.casesOn with
   |nil=>exact ff xu
   |cons z zs=>
    induction zs using List.casesOn with
    |cons _ _=>exact ff xu
    |nil=>
     refine wpAny_tests_one ?_;refine wpAny_mono (uh.go (Ae H IH a n c z g' aF _ _ aJ p8 (by rw[UU];exact xu) Jk.inv Jk.bJ q) fun b g3 nS s3 q3 kZ=>?_) (fun _ _ z=>z) fun _ _ z=>z.elim
     induction b using Bool.casesOn with
     |true=>
      simp only[if_true];exact body g3 nS s3 _ (Jk.trans kZ) q3
     |false=>
      simp only[Bool.false_eq_true,if_false];have NX:=Jk.trans kZ;obtain⟨d1,d2,d3⟩:=NX.post.fo Da _ hD2 (by rw[Pf];trivial);obtain⟨oI,MB⟩:=S.live _ _ CD;obtain⟨i1,i2,i3⟩:=NX.post.fo Ia _ MB (by rw[CC];trivial);refine qd (id Ib) fun oC _ _ KX _=>?_;have KX:KW.get? Cf=some oC:=KX;obtain⟨c1,c2,c3⟩:=NX.post.fo Cf _ KX (by rw[Jl];trivial);have RM:∀m v,ku m=false->bG W g' m v->bG W g3 m v:=fun m v hm r=>r.mono NX.post (fun z=>by rw[hm]at z;rcases z with _|_);exact⟨xs.length+1-(k+1),by omega,SH (k+1) _ ⟨⟨ys,acc,g3,nS,ws,WQ,_,Nr,pY,q3,kZ.inv,c2.trans Jl,Ns.at Ib (fun o e=>by rw[KX]at e;rcases e with _|_;exact c1),i2.trans CC,i3.trans H7,
       S.fr _ _ _ CD (fun o e=>by rw[MB]at e;rcases e with _|_;exact i1),d2.trans Pf,d3.trans SJ,d1,wg NX.post (fun m hm=>H9 m (List.mem_reverse.mp hm)) H8,Nat.le_succ_of_le wh,H9,P2.trans NX.post,S.mono _ _ RM Ai⟩,NX.gens.trans hg,NX.os.trans ho⟩⟩
end
section
variable{W:Wd}{N:Nm}{G:Own}{A:Around}{s:Shared}{g cD:Gh}{σ ab:St}{env:Env}{ê:ak}{d n aJ:Nat}{C:Cl}{Q:KV}{h h' jC:Heap}
theorem gc.live{g':Gh}{aF:St}(P:gc g σ h g' aF h'){a:Addr}(e:h'.get? a=none):h.get? a=none:=by
 cases z:h.get? a with
 |none=>rfl
 |some o=>obtain⟨o',q⟩:=P.s.live z;rw[q]at e;rcases e with _|_
theorem CF{P:Prop}(h:n0 ê P):iM ê=false/\P:=by
 unfold n0 at h;split at h
 ·rename_i e;exact⟨e,h⟩
 ·exact h.elim
theorem UY{e:Expr}{env:Env}(h:(!isSet e)=true):∀x,foldedSetIterable e env x=pure x:=by
 intro x;rcases e with _|_<;>first|rfl|rcases h with _|_
theorem yI(H:iH W N G)(IH:∀m,m<=n->eh W d (ev G C n) (aH N m))(p8:aJ<=n)(a:iu d 2 A)(I:Inv W g σ s.heap)(Ce:aS W g env ê s.heap){elt it:E}{y:Expr}{tg:Str}{p pos pos':Pos}{cond:Option E}{ifs:List Expr}{iter:Expr}{scope:Scope}{fv:List Str}{use:Option (Value->Sem Unit)}{R:Value->Shared->Prop}{pl:List ag->Place}
  (hit:aH N aJ env.scope.names it iter=true) (YF:(!isSet iter)=true) (E8:sy env.scope.names scope.names tg fv=true) (Pd:scope.kind=.function)
  (he:aH N aJ (pN env.scope.names scope.names) elt y=true) (xu:vj (aH N aJ (pN env.scope.names scope.names)) cond ifs=true)
  (q:mq (ev G C n) it ê σ fun xs w ab=>n0 (envOf fv ê)<|kb (ev G C n) G.tab n elt tg cond w (envOf fv ê) xs [] ab fun vs au=>pK ê ab au (pL (pl vs) (Jh vs) ê au Q))
  (fin:∀m g' aF s' Da Cf,Q m aF->bG W g' m (.ref Da)->dO W env ê g σ s g' aF s'->s.heap.get? Cf=none->g'.O Cf=.no->g'.B.get? Cf=none->(∃mC,s'.heap.Ns Cf mC)->compPost (model W.prog W.w) A NE use R (.ref Da) Cf (.ok .next) s'):
  wpAny (model W.prog W.w) A (comprehension (.ListComp y [⟨.Name tg p,iter,ifs,0⟩] scope pos) scope env pos' (newList []) false (eval iter env) use) R NE s:=by
 refine MJ (oF E8) fun s1 s2 s3 s4 s5=>?_;refine bc fun bf=>?_;obtain⟨cl,s6,c1,c2,_⟩:=qA (env:=env) scope.names [] fun x hx=>Ce.all x (by rw[f7 rfl];exact s3 x hx);refine bf ?_;have UZ:closureFor scope env=pure cl:=by
  unfold closureFor;exact(congrArg (fun(m:Sem (List (Str×Addr)))=>m>>= fun cs=>pure cs) s6).trans rfl
 have h1:∀x c,cl.lookup x=some c->(x,NameKind.free)∈scope.names/\env.cells.lookup x=some c:=fun x c e=>by
  rcases c1 x c e with q|q
  ·rcases q with _|_
  ·exact q
 refine wpAny_comprehension_free (use:=use) rfl (UY YF) UZ Pd s2 (cQ (KQ H IH p8 a I Ce hit q) fun xv sA hA=>cQ hA fun itv sB hB=>?_);refine OP (hB) fun xs w cD ab bQ Ia It Rel YG q nx S Pe QW nI hlen keep hg ho ok=>?_;subst YG;have Ks:=CF q;have hv:=Ks.1;have q:=Ks.2;clear Ks;refine wpAny_newObj_type (wpAny_newFunctionEnv s1 (by intro y hy;simp at hy) (fun hh SA WT=>?_) Pd);dsimp only at SA WT⊢;generalize YH:sB.heap.push {cls:=.type "list",dict:=none,data:=.seq ([]:List Value).toArray}=H2 at SA WT⊢;have hC:H2.objs.size=sB.heap.objs.size+1:=by rw[<-YH,Heap.size_push]
 have WU:sB.heap.get? sB.heap.objs.size=none:=cY _;have SK:sB.heap.get? H2.objs.size=none:=by rw[hC];exact KP _
 have dead:∀a,sB.heap.get? a=none->bQ.heap.get? a=none:=fun a e=>by
  cases z:bQ.heap.get? a with
  |none=>rfl
  |some o=>rw[keep a o z]at e;rcases e with _|_
 obtain⟨oI,MB⟩:=S.live _ _ Pe;have U0:=Heap.lt_size MB;have ne1:Ia≠H2.objs.size:=by rw[hC];exact Nat.ne_of_lt (Nat.lt_succ_of_lt U0)
 have ne2:Ia≠sB.heap.objs.size:=Nat.ne_of_lt U0;have ne3:H2.objs.size≠sB.heap.objs.size:=by rw[hC];exact Nat.succ_ne_self _
 have k2:∀b o,sB.heap.get? b=some o->hh.get? b=some o:=fun b o e=>WT.extBut b o (fun z=>by rw[z,SK]at e;rcases e with _|_) (Heap.get?_push_of_some _ (YH▸Heap.get?_push_of_some _ e));have kk:∀b o,bQ.heap.get? b=some o->hh.get? b=some o:=fun b o e=>k2 b o (keep b o e);have hD:hh.get? sB.heap.objs.size=some (eu [] 0):=WT.extBut _ _ (Ne.symm ne3) (Heap.get?_push_of_some _ (YH▸Heap.get?_push_size _ rfl));have QX:=nx.inv.ke kk;have I2:=QX.1;have P2:=QX.2;clear QX;have hOC:cD.O H2.objs.size=.no:=nx.inv.live _ (dead _ SK);have hBC:cD.B.get? H2.objs.size=none:=jk nx.inv (dead _ SK);have hOD:cD.O sB.heap.objs.size=.no:=nx.inv.live _ (dead _ WU);have hBD:cD.B.get? sB.heap.objs.size=none:=jk nx.inv (dead _ WU);have I3:=I2.Yy hOC hBC (by obtain⟨o,_,_,ho,_⟩:=id SA;exact⟨o,ho⟩);have P3:=P2.tag (O:=cD.O) (t:=.fr) (dead _ SK);have Ce1:aS W cD env (envOf fv ê) bQ.heap:=nx.bJ.sub fun x m e=>(pz e).1;have rm3:RM W cD {cD with O:=cM cD.O H2.objs.size .fr}:=RM.same;have L:KS W xs w It Rel Ia H2.objs.size sB.heap.objs.size cD ab bQ (fun ys acc σ=>kb (ev G C n) G.tab n elt tg cond w (envOf fv ê) ys acc σ fun vs au=>pK ê ab au (pL (pl vs) (Jh vs) ê au Q)) 0 {sB with heap:=hh,toks:=sB.toks+([]:List (Str×Value)).length}:=by
  refine⟨⟨xs,[],_,ab,[],0,_,rfl,Nat.zero_le _,q,I3,cZ ..,SA,?_,jk nx.inv nI,S.fr _ _ _ Pe (fun o e=>k2 _ o e),?_,hBD,hD,trivial,Nat.le_refl _,(fun m hm=>by rcases hm with _|_),P3,?_⟩,hg,ho⟩
  ·show cM cD.O _ _ _=_;rw[cF ne1];exact nx.inv.live _ nI
  ·show cM cD.O _ _ _=_;rw[cF (Ne.symm ne3)];exact hOD
  ·exact S.mono _ _ (fun m v _ r=>rm3 m v r) QW
 have loop:=H5 (A:=A) (y:=y) (p:=p) (pos:=pos) (ifs:=ifs) (iter:=iter) (cl:=cl) (R:=compPost (model W.prog W.w) A NE use R (.ref sB.heap.objs.size) H2.objs.size) H IH p8 a E8 Pd h1 c2 he xu S hlen Ce1 hv nI (dead _ SK) (dead _ WU) ne1 ne2 ne3 L ?_
 ·exact codeAny_compStart_list loop (S.self 0 _ _ _ (S.fr _ _ _ Pe (fun o e=>k2 _ o e)) loop)
 ·intro s' g' aF acc ws nD mC hK I' Jl H6 Pf SJ UX H8 P SM z9;have E9:=mG hK;have H9:=E9.1;have hK:=E9.2;clear E9;have nC1:=dead _ SK;have I5:=I'.Yx Jl;have P5:=P.tag (O:=g'.O) (t:=.no) nC1;have C5:=nx.bJ.post P5 H9;have rm5:RM W g' {g' with O:=cM g'.O H2.objs.size .no}:=RM.same;have U1:cM g'.O H2.objs.size .no sB.heap.objs.size=.no:=by rw[cF (Ne.symm ne3)];exact Pf
  have kd:∀b o,b≠sB.heap.objs.size->s'.heap.get? b=some o->(E0 s'.heap sB.heap.objs.size).get? b=some o:=fun b o hb e=>by rw[ki,if_neg hb];exact e
  have I6:=I5.drop (h':=E0 s'.heap sB.heap.objs.size) U1 SJ kd fun b e hb=>by rw[ki,if_neg hb]at e;exact e
  have C6:=C5.drop (h':=E0 s'.heap sB.heap.objs.size) U1 kd;have P6:=P5.drop (h':=E0 s'.heap sB.heap.objs.size) (dead _ WU) kd;refine nW (yD acc) fun c r' e ei=>?_;rw[e]at hK;refine bc fun bf=>?_;obtain⟨m,g7,σ7,hQ,rm7,I7,C7,P7⟩:=Ad (o:=.list c r') (h':=s'.heap) I6 C6 (by rw[ki,if_pos rfl]) (fun b o e=>by
   rw[ki]at e;by_cases hb:b=sB.heap.objs.size
   ·rw[if_pos hb]at e;rcases e with _|_
   ·rw[if_neg hb]at e;exact e) UX rfl (fun g' rm tag z=>⟨z,ws,nD,UX,by rw[ei];exact(H8.rm rm5).rm rm⟩) (fun _ _ z=>nomatch z) hK
  obtain⟨oC,es,ep,KX,ab2⟩:=id H6;obtain⟨f1,f2,f3⟩:=P7.fo H2.objs.size oC (kd _ _ ne3 KX) (by show JC (cM _ _ _ _);rw[cZ];trivial);refine bf ?_;have nx7:dO W env ê cD ab bQ g7 σ7 s':=⟨I7,C7,P6.trans P7,SM,z9⟩;refine fin m g7 σ7 s' _ _ hQ rm7 (nx.trans nx7) (nx.post.live nC1) (f2.trans (cZ ..)) (f3.trans ?_) ⟨mC,H6⟩;show g'.B.get? _=none;cases z:g'.B.get? H2.objs.size with
  |none=>rfl
  |some o=>have:=I'.lM _ _ z;rw[Jl]at this;rcases this with _|_
end
section
variable{W:Wd}{N:Nm}{G:Own}{A:Around}{s:Shared}{g cD:Gh}{σ ab:St}{env:Env}{ê:ak}{d n aJ:Nat}{C:Cl}{Q:KV}{h h' jC:Heap}
theorem QY(H:iH W N G)(IH:∀m,m<=n->eh W d (ev G C n) (aH N m))(p8:aJ<=n)(a:iu d 2 A)(I:Inv W g σ s.heap)(Ce:aS W g env ê s.heap){elt it:E}{tg:Str}{cond:Option E}{fv:List Str}{x:Expr}(hc:aH N (aJ+1) env.scope.names (.comp elt tg it cond fv) x=true)
  (q:mq (ev G C n) it ê σ fun xs w ab=>n0 (envOf fv ê)<|kb (ev G C n) G.tab n elt tg cond w (envOf fv ê) xs [] ab fun vs au=>pK ê ab au (pL (match qL vs with|some _=>.fz|none=>.A6) (Jh vs) ê au Q)):
  wpAny (model W.prog W.w) A (eval x env) (aR W env ê g σ s Q) NE s:=by
 refine JN hc fun y gs scope pos hc=>jf hc fun gg hc=>vf hc fun hg h5 h3 h6 h7 h8 h9=>?_;obtain⟨YI,iter,ifs,asy⟩:=gg;obtain⟨hn,hg⟩:=cx hg;obtain⟨ha,h4⟩:=cx hg;have e0:=of_decide_eq_true ha;subst e0;have hn:iN YI (fun t _=>eZ t tg&& !eZ t m5)=true:=hn;refine dU hn fun t tp hn=>dR hn fun h1 h2=>?_;have h3:aH N aJ env.scope.names it iter=true:=h3;have h4:(!isSet iter)=true:=h4;have h8:vj (aH N aJ (pN env.scope.names scope.names)) cond ifs=true:=h8;have e:=bj.mp h1;subst e;rw[eval_ListComp];refine yI (use:=none) (pl:=fun vs=>match qL vs with|some _=>.fz|none=>.A6) H IH p8 a I Ce h3 h4 h7 ?_ h6 h8 q fun m g' aF s' Da Cf hQ r nx nC hO hB H6=>?_
 ·cases q:scope.kind<;>rw[q]at h9<;>first|rfl|exact ff h9
 ·obtain⟨mC,H6⟩:=H6;refine⟨mC,H6,fun h' sb=>?_⟩;have keep:∀b o,b≠Cf->s'.heap.get? b=some o->h'.get? b=some o:=fun b o hb e=>sb.extBut b o hb e;have I':=nx.inv.drop (h':=h') hO hB keep fun b e hb=>by
   cases z:s'.heap.get? b with
   |none=>rfl
   |some o=>rw[keep b o hb z]at e;rcases e with _|_
  exact⟨m,g',aF,hQ,r,I',nx.bJ.drop hO keep,nx.post.drop nC keep,nx.gens,nx.os⟩
theorem CG:yn=("len" :Str):=by decide+kernel
theorem Nt(H:iH W N G)(a:iu d 2 A)(I:Inv W g σ s.heap)(Ce:aS W g env ê s.heap){o k:E}{x:Expr}(hc:aH N (aJ+1) env.scope.names (.Bf o k) x=true)
  (q:ev G C n o ê σ fun v ab=>ev G C n k ê ab fun w au=>Jg v fun i=>jI w fun y=>dI y fun k=>zN k fun m=>oL (au.nU i) fun c r=>ka c ((m<=r.length/\r.length<=ah)/\Q (.d (.list (r.take m).reverse)) au)):wpAny (model W.prog W.w) A (eval x env) (aR W env ê g σ s Q) NE s:=by
 refine vi hc fun v vp ln lp v' Jj cp w bp sp pos hc=>vf hc fun h1 h2 h3 h4 h5 h6 h7=>?_;have e1:=bj.mp h1;have e4:=bj.mp h4;subst e1 e4;clear hc;revert h5 h6 q;refine yu h7 fun xo xk=>?_;intro q h5 h6
 induction aJ using Nat.casesAuxOn with
 |zero=>exact ff h5
 |succ aJ=>
 induction n using Nat.casesAuxOn with
 |zero=>exact q.elim
 |succ n=>
 have QZ:=cx h5;have a1:=QZ.1;have a2:=QZ.2;clear QZ;refine nZ (cX a1) fun ui hd _ xu=>?_;subst ui;have q:oS (dE v ê) fun mv=>oS (dE xk ê) fun mk=>Jg (res σ mv) fun i=>jI (res σ mk) fun y=>dI y fun k=>zN k fun m=>oL (σ.nU i) fun c r=>ka c ((m<=r.length/\r.length<=ah)/\Q (.d (.list (r.take m).reverse)) σ):=q;refine dU h6 fun z zp h6=>dR h6 fun b1 b2=>?_;refine nZ (cX b1) fun ui Kn _ Q0=>?_;subst ui;refine lL q fun mv YJ q=>lL q fun mk YK q=>?_;refine bc fun hn=>?_;refine bR (Ce.vars _ _ YJ) fun vv hh rr=>?_;refine bR (Ce.vars _ _ YK) fun vk YL rk=>?_;have rr:=rG I rr;have rk:=rG I rk;revert rr rk;refine tA q fun i q=>cN q fun y q=>t9 q fun kk q=>Jv q fun m q=>qK q fun c r es q=>?_;revert es;refine gW q fun q es rr rk=>hn ?_;refine bc fun bf=>?_;obtain⟨⟨hm,hb⟩,q⟩:=q;obtain⟨tk,rfl⟩:=i4 (show dP g.B (.int (m:Int)) vk from rk);refine bf ?_;refine nY (ly I rr (show σ.obj (.b i)=_ from es)) fun l ws k' nR hg hr=>?_;subst nR;have e0:=d6 hr;rw[ig,List.length_nil,Nat.zero_add]at e0;have Pg:ws.toArray.size=r.length:=by simp[e0]
 refine Subscript_ (lu (h:=s.heap) Ce.kind hh hd ?_ (.inl xu));refine wpAny_Slice (wpAny_BinOp (wpAny_Call_ofName (rI H I Ce h3 (by rw[CG];decide) H.bl.1 H.bl.2 ?_)));have Nn:backTo cp (starEach [Expr.Name v Jj] env)=[(false,eval (.Name v Jj) env)]:=rfl;refine az (Nn) ?_;refine callWith_builtin rfl (evalArgs_plain (spliced_cons (lu (h:=s.heap) Ce.kind hh hd (spliced_nil ?_) (.inl xu))));refine PyProof.Rows.len_list (fO hg) (by rw[Pg];exact jn hb) ?_;refine lu (h:=s.heap) (env:=env) Ce.kind YL Kn ?_ (.inl Q0);refine sub_int ?_;refine wpAny_pure (wpAny_pure ?_);dsimp only;refine az (Pg) ?_;have ei:((r.length:Int)-(m:Int))=((r.length-m:Nat):Int):=by omega
 refine az (ei) ?_;have nx:∀tk,dO W env ê g σ s g σ {s with heap:=s.heap.push {cls:=.type "slice",data:=.fields #[.int ((r.length-m:Nat):Int) (s.toks+1+1),.none,.none]},toks:=tk}:=fun tk=>dO.ke I Ce (fun b o e=>Heap.get?_push_of_some _ e) rfl rfl;have hl:=fO (Heap.get?_push_of_some {cls:=.type "slice",data:=.fields #[.int ((r.length-m:Nat):Int) (s.toks+1+1),.none,.none]} hg);refine tail_any (T:= "list") (ops:=[.ref s.heap.objs.size,.ref l]) hl.typeIs PySem.slot_list_getitem.lookup ?_ rfl;refine wpAny_getItem_list_slice hl (Heap.IsSliceOf.new _ _ _ _) (.int _ _) .none .none (by simp) ?_ (by rw[Pg];exact eH hb);rw[slicePick_from'];have jc:=Cs (r.length-m) hr;rw[<-EY,jJ]at jc;obtain⟨as,ra⟩:=gP jc;exact(Ko (nx _).inv (nx _).bJ ra q).pre (nx _)
theorem KY(H:iH W N G)(HC:wc W d C):∀n m,m<=n->eh W d (ev G C n) (aH N m)
 |0,m,hm=>fun e x env ê g σ s Q A hc a I Ce q=>q.elim
 |n+1,0,hm=>fun e x env ê g σ s Q A hc a I Ce q=>by cases hc
 |n+1,k+1,hm=>fun e x env ê g σ s Q A hc a I Ce q=>by
  have IH:∀m,m<=n->eh W d (ev G C n) (aH N m):=fun m hm=>KY H HC n m hm;have hk:k<=n:=Nat.le_of_succ_le_succ hm;have ih:=IH k hk
  induction e using E.casesOn with
  |c x=>exact e_c I Ce hc q
  |neg i=>exact Uw I Ce hc q
  |var x=>exact Ux I Ce hc q
  |oY f=>exact Uy H I Ce hc q
  |OQ g=>exact Uz H I Ce hc q
  |attr o a'=>exact QP H ih a I Ce hc q
  |sub o i=>exact UA H ih a I Ce hc q
  |DM o lo hi=>exact UP H ih a I Ce hc q
  |Bf o k=>exact Nt H a I Ce hc q
  |bin op l r=>exact UB H ih a I Ce hc q
  |cmp op l r=>exact UC H ih a I Ce hc q
  |cx l r=>exact QQ H ih a I Ce hc q
  |A7 l r=>exact UD H ih a I Ce hc q
  |ite c t e=>exact UE H IH hk a I Ce hc q
  |tup l=>exact UH H ih a I Ce hc q
  |lst p l=>exact UI H ih a I Ce hc q
  |G9 p ks l=>exact UJ H ih a I Ce hc q
  |call f l=>exact QT H HC ih a I Ce hc q
  |tw e l=>exact Np H HC ih a I Ce hc q
  |new k s l=>exact UQ H HC ih a I Ce hc q
  |gM e=>exact UK ih a I Ce hc q
  |len e=>exact UL H ih a I Ce hc q
  |sg e=>exact q.elim
  |str e=>exact UM H ih a I Ce hc q
  |sj e=>exact Kw H ih a I Ce hc q
  |oZ e=>exact HY H ih a I Ce hc q
  |append o x=>exact Kz H ih a I Ce hc q
  |extend o x=>exact KA H ih a I Ce hc q
  |pop o=>exact UN H ih a I Ce hc q
  |update o x=>exact KC H ih a I Ce hc q
  |get o k d=>exact UO H ih a I Ce hc q
  |comp elt tg it cond fv=>exact QY H IH hk a I Ce hc q
end
structure xy(W:Wd)(env:Env)(g:Gh)(σ:St)(s:Shared)(d9:ak)(g':Gh)(aF:St)(s':Shared):Prop where
 inv:Inv W g' aF s'.heap
 bJ:aS W g' env d9 s'.heap
 post:iB g σ s.heap g' aF s'.heap
 gens:s'.gens=s.gens
 os:s'.os=s.os
noncomputable def U2(W:Wd)(g:Gh):Fl->Flow->Prop
 |.next,.next=>True
 |.cont,.cont=>True
 |.ret m,.ret v=>bG W g m v/\j9 m=true
 |_,_=>False
noncomputable def kF(W:Wd)(env:Env)(g:Gh)(σ:St)(s:Shared)(Q:KF):Flow->Shared->Prop:=
 fun f s'=>∃fl d9 g' aF,Q fl d9 aF/\U2 W g' fl f/\xy W env g σ s d9 g' aF s'
section
variable{W:Wd}{N:Nm}{G:Own}{A:Around}{s:Shared}{g cD:Gh}{σ ab:St}{env:Env}{ê rL:ak}{d n aJ:Nat}{C:Cl}{Q:KF}{h h' jC:Heap}
theorem dO.toS{g':Gh}{aF:St}{s':Shared}(a:dO W env ê g σ s g' aF s'):xy W env g σ s ê g' aF s':=⟨a.inv,a.bJ,a.post.s,a.gens,a.os⟩
theorem xy.trans{Ph:ak}{u0:Gh}{au:St}{bQ pR:Shared}(a:xy W env g σ s rL cD ab bQ)(b:xy W env cD ab bQ Ph u0 au pR):xy W env g σ s Ph u0 au pR:=⟨b.inv,b.bJ,a.post.trans b.post,b.gens.trans a.gens,b.os.trans a.os⟩
theorem xy.refl(I:Inv W g σ s.heap)(Ce:aS W g env ê s.heap):xy W env g σ s ê g σ s:=⟨I,Ce,iB.refl _ _ _,rfl,rfl⟩
theorem kF.pre{bQ:Shared}(a:xy W env g σ s rL cD ab bQ){f:Flow}{s':Shared}(x:kF W env cD ab bQ Q f s'):kF W env g σ s Q f s':=
 let⟨fl,d9,g',aF,q,r,n⟩:=x;⟨fl,d9,g',aF,q,r,a.trans n⟩
theorem kF.on{M:Model}{bQ:Shared}{t:Sem Flow}(nx:xy W env g σ s rL cD ab bQ)(x:wpAny M A t (kF W env cD ab bQ Q) NE bQ):wpAny M A t (kF W env g σ s Q) NE bQ:=cQ x fun _ _ o=>o.pre nx
theorem Q1{h:Heap}{a:Addr}{m m':Str->Option Value}(x:h.Ns a m)(x':h.Ns a m')(y:Str):m y=m' y:=by
 refine lW (x) fun o es ep ho hd _ hm=>?_;refine lW (x') fun o' Nn ep' SN Kn _ Hf=>?_;obtain rfl:=Option.some.inj (ho.symm.trans SN);rw[hd]at Kn;rcases Kn with _|_
 rw[<-hm y,<-Hf y]
theorem oG(I:Inv W g σ s.heap)(Ce:aS W g env ê s.heap){x:Str}{m:ag}{v:Value}{R:Unit->Shared->Prop}(hx:fi env.scope.names x=true)(r:bG W g m v)
  (k:∀h' tk,xy W env g σ s (i9 x m ê) g σ {s with heap:=h',toks:=tk}->(∀b o,(b=env.locals\/∃x c,env.cells.lookup x=some c/\b=c)\/(s.heap.get? b=some o->h'.get? b=some o))->R () {s with heap:=h',toks:=tk}):
  wpAny (model W.prog W.w) A (storeName env x v) R NE s:=by
 unfold fi at hx;have kd:=f7 (env:=env) rfl x;split at hx
 ·rename_i e;obtain⟨mm,hn⟩:=Ce.ns;have hk:env.kindOf x=some .local:=by rw[kd,e]
  refine wpAny_storeName_local hk hn (fun h' pM sb=>?_) (by rw[Ce.kind];rfl);have keep:∀b o,b≠env.locals->s.heap.get? b=some o->h'.get? b=some o:=fun b o hb e=>sb.extBut b o hb e;have live:∃o,h'.get? env.locals=some o:=by obtain⟨o,_,_,ho,_⟩:=pM;exact⟨o,ho⟩
  have kc:∀y c,env.cells.lookup y=some c->∀o,s.heap.get? c=some o->h'.get? c=some o:=fun y c e o q=>keep c o (Ce.cells y c e).2.1 q;refine k h' _ ⟨I.Sz Ce.fr keep live,⟨Ce.kind,Ce.fr,⟨_,pM⟩,fun y my e=>?_,fun y c e=>?_,Ce.inj,Ce.glob,Ce.all⟩,iB.Sz Ce.fr keep live,rfl,rfl⟩ fun b o=>?_
  ·rw[u5]at e;by_cases z:x=y
   ·subst z;rw[if_pos rfl]at e;rcases e with _|_
    exact⟨v,.inl ⟨hk,_,pM,by simp⟩,r⟩
   ·rw[if_neg z]at e;refine bR (Ce.vars y my e) fun u hh r'=>?_;refine⟨u,?_,r'⟩;rcases hh with⟨k1,m1,n1,e1⟩|⟨k1,c,e1,ic⟩
    ·refine .inl ⟨k1,_,pM,?_⟩;have:mm y=m1 y:=Q1 hn n1 y;rw[if_neg (fun q=>z q.symm),this];exact e1
    ·exact .inr ⟨k1,c,e1,IsCell.at ic (kc _ _ e1)⟩
  ·obtain⟨o1,ne,vo,ic⟩:=Ce.cells y c e;exact⟨o1,ne,vo,IsCell.at ic (kc _ _ e)⟩
  ·by_cases hb:b=env.locals
   ·exact .inl (.inl hb)
   ·exact .inr (keep b o hb)
 ·rename_i e;have hk:env.kindOf x=some .cell:=by rw[kd,e]
  obtain⟨c,hc⟩:=Ce.all x (.inl hk);obtain⟨o1,ne,vo,ic⟩:=Ce.cells x c hc;refine wpAny_storeName_cell Ce.kind hk hc ic (fun h' YM sb=>?_);have keep:∀b o,b≠c->s.heap.get? b=some o->h'.get? b=some o:=fun b o hb e=>sb.extBut b o hb e;have live:∃o,h'.get? c=some o:=by obtain⟨o,ho,_⟩:=YM;exact⟨o,ho⟩
  have kl:∀o,s.heap.get? env.locals=some o->h'.get? env.locals=some o:=fun o q=>keep _ o (Ne.symm ne) q;have kc:∀y c',env.cells.lookup y=some c'->y≠x->∀o,s.heap.get? c'=some o->h'.get? c'=some o:=fun y c' e hy o q=>keep c' o (fun z=>by subst z;exact hy (Ce.inj _ _ _ e hc)) q;refine k h' _ ⟨I.Sz o1 keep live,⟨Ce.kind,Ce.fr,?_,fun y my e=>?_,fun y c' e=>?_,Ce.inj,Ce.glob,Ce.all⟩,iB.Sz o1 keep live,rfl,rfl⟩ fun b o=>?_
  ·obtain⟨mm,hn⟩:=Ce.ns;exact⟨mm,Ns.at hn kl⟩
  ·rw[u5]at e;by_cases z:x=y
   ·subst z;rw[if_pos rfl]at e;rcases e with _|_
    exact⟨v,.inr ⟨.inl hk,c,hc,YM⟩,r⟩
   ·rw[if_neg z]at e;refine bR (Ce.vars y my e) fun u hh r'=>?_;refine⟨u,?_,r'⟩;rcases hh with⟨k1,m1,n1,e1⟩|⟨k1,c',e1,ic1⟩
    ·exact .inl ⟨k1,m1,Ns.at n1 kl,e1⟩
    ·exact .inr ⟨k1,c',e1,IsCell.at ic1 (kc _ _ e1 (Ne.symm z))⟩
  ·obtain⟨o2,ne2,vo2,ic2⟩:=Ce.cells y c' e;by_cases z:y=x
   ·rw[z,hc]at e;rcases e with _|_
    exact⟨o1,ne,_,YM⟩
   ·exact⟨o2,ne2,vo2,IsCell.at ic2 (kc _ _ e z)⟩
  ·by_cases hb:b=c
   ·exact .inl (.inr ⟨x,c,hc,hb⟩)
   ·exact .inr (keep b o hb)
 ·rcases hx with _|_
end
noncomputable def KZ(W:Wd)(d:Nat)(hf:Ex)(ck:Sc->T->Stmt->Bool):Prop:=
 ∀(t:T) (x:Stmt) (env:Env) (ê:ak) (g:Gh) (σ:St) (s:Shared) (Q:KF) (A:Around),ck env.scope.names t x=true->iu d 2 A->Inv W g σ s.heap->aS W g env ê s.heap->hf t ê σ Q->
  wpAny (model W.prog W.w) A (exec x env) (kF W env g σ s Q) NE s
section
variable{W:Wd}{N:Nm}{G:Own}{A:Around}{s:Shared}{g cD:Gh}{σ ab:St}{env:Env}{ê rL:ak}{d n aJ:Nat}{C:Cl}{Q:KF}{h h' jC:Heap}
theorem mM{hf:Ex}{ck:Sc->T->Stmt->Bool}(X:KZ W d hf ck)(a:iu d 2 A):∀(ts:List T) (xs:List Stmt) (g:Gh) (σ:St) (s:Shared) (ê:ak) (Q:KF),qR (ck env.scope.names) ts xs=true->Inv W g σ s.heap->aS W g env ê s.heap->gz hf ts ê σ Q->
  wpAny (model W.prog W.w) A (execs xs env) (kF W env g σ s Q) NE s
 |[],[],g,σ,s,ê,Q,hc,I,Ce,q=>wpAny_execs_nil ⟨.next,ê,g,σ,q,trivial,xy.refl I Ce⟩
 |t::ts,x::xs,g,σ,s,ê,Q,hc,I,Ce,q=>by
  obtain⟨h1,h2⟩:=Bool.and_eq_true_iff.mp (show(ck env.scope.names t x&&qR (ck env.scope.names) ts xs)=true from hc);refine wpAny_execs_cons (cQ (X t x env ê g σ s _ A h1 a I Ce q) fun f s' o=>?_);refine MI (o) fun fl d9 g' aF q r nx=>?_
  induction fl using Fl.casesOn with
  |next=>
   cases f<;>first|exact r.elim|skip
   exact kF.on nx (mM X a ts xs g' aF s' d9 Q h2 nx.inv nx.bJ q)
  |cont=>
   rcases f with _|_<;>first|exact r.elim|skip
   exact⟨.cont,d9,g',aF,q,trivial,nx⟩
  |ret m=>
   rcases f with _|_<;>first|exact r.elim|skip
   exact⟨.ret m,d9,g',aF,q,r,nx⟩
 |[],_::_,_,_,_,_,_,hc,_,_,_=>by cases hc
 |_::_,[],_,_,_,_,_,hc,_,_,_=>by cases hc
noncomputable def yd(W:Wd)(env:Env)(g:Gh)(σ:St)(s:Shared)(K:ak->St->Prop):Unit->Shared->Prop:=
 fun _ s'=>∃d9 g' aF,K d9 aF/\xy W env g σ s d9 g' aF s'
theorem yd.pre{K:ak->St->Prop}{bQ:Shared}(a:xy W env g σ s rL cD ab bQ){s':Shared}(x:yd W env cD ab bQ K () s'):yd W env g σ s K () s':=
 let⟨d9,g',aF,q,n⟩:=x;⟨d9,g',aF,q,a.trans n⟩
theorem Gv(I:Inv W g σ s.heap)(Ce:aS W g env ê s.heap){x:Str}{m:ag}{v:Value}{K:ak->St->Prop}(hx:fi env.scope.names x=true)(r:bG W g m v)(q:K (i9 x m ê) σ):
  wpAny (model W.prog W.w) A (storeName env x v) (yd W env g σ s K) NE s:=
 oG I Ce hx r fun h' tk nx _=>⟨_,g,σ,q,nx⟩
theorem wi{sc:Sc}:∀{xs:List Str} {ys:List Expr},vl sc xs ys=true->(assignEach ys env).length=xs.length/\List.findIdx? (fun x=>x.fst) (assignEach ys env)=none:=by
 intro l0
 induction l0 with
 |nil=>
  intro l1;rcases l1 with _|⟨y0,nK⟩
  ·intro _;exact⟨rfl,rfl⟩
  ·intro hc;cases hc
 |cons x xs ih=>
  intro l1;rcases l1 with _|⟨y,ys⟩
  ·intro hc;cases hc
  ·intro hc;refine bc fun bf=>?_;obtain⟨h,h3⟩:=cx hc;obtain⟨a,b⟩:=ih h3;refine bf ?_;refine dU h fun y p h=>⟨congrArg (·+1) a,?_⟩;show List.findIdx? (fun x=>x.fst) ((false,_)::assignEach ys env)=none;rw[List.findIdx?_cons,b];rfl
theorem s7:∀{xs:List Str} {l:List D} {ê:ak} {K:ak->Prop},tB xs l ê K->xs.length=l.length:=by
 intro l0
 induction l0 with
 |nil=>
  intro l1;rcases l1 with _|⟨y0,nK⟩
  ·intro _ _ _;exact rfl
  ·intro _ _ q;exact q.elim
 |cons x0 Ji ih=>
  intro l1;rcases l1 with _|⟨y0,nK⟩
  ·intro _ _ q;exact q.elim
  ·intro _ _ q;exact congrArg (·+1) (ih q)
theorem CH:∀(xs:List Str) (ys:List Expr) (l:List D) (vs:List Value) (as:List Addr) (g:Gh) (σ:St) (s:Shared) (ê:ak) (K:ak->Prop),vl env.scope.names xs ys=true->Inv W g σ s.heap->aS W g env ê s.heap->ReadsAll g.B vs l as->tB xs l ê K->
  wpAny (model W.prog W.w) A (assignInOrder (List.map (fun x=>x.snd) (assignEach ys env)) vs) (yd W env g σ s fun d9 aF=>aF=σ/\K d9) NE s:=by
 intro l0
 induction l0 with
 |nil=>
  intro ys l vs as g σ s ê K hc I Ce hr q;rcases l with _|⟨d,ds⟩
  ·rcases ys with _|⟨y,ys⟩
   ·cases hr;exact wpAny_assignInOrder_none ⟨ê,g,σ,⟨rfl,q⟩,xy.refl I Ce⟩
   ·exact ff hc
  ·exact q.elim
 |cons x xs ih=>
  intro ys l vs as g σ s ê K hc I Ce hr q;rcases l with _|⟨d,ds⟩
  ·exact q.elim
  rcases ys with _|⟨y,ys⟩
  ·exact ff hc
  cases hr with
  |cons r rs=>
   obtain⟨h,h3⟩:=cx hc;refine dU h fun y p h=>dR h fun h1 h2=>?_;have e:=bj.mp h1;subst e;refine wpAny_assignInOrder_more (wpAny_assign_Name (oG (m:=.d d) I Ce h2 ⟨_,r⟩ fun h' tk nx _=>?_));exact cQ (ih ys ds _ _ g σ _ _ K h3 nx.inv nx.bJ rs q) fun _ _ o=>o.pre nx
theorem Gw{M:Model}{o:Expr}{a:Str}{p:Pos}{v:Value}{R:Unit->Shared->Prop}(hx:wpAny M A (eval o env) (fun ov bQ=>wpAny M A (setAttr ov a v) R NE bQ) NE s):wpAny M A (assign (.Attribute o a p) env v) R NE s:=by
 rw[arm_assign_Attribute];refine wpAny_bind (wpAny_holding (wpAny_mono hx (fun ov bQ jC=>?_) fun _ _ x=>x));refine wpAny_bind (wpAny_standAt (wpAny_bind (wpAny_holding (wpAny_mono jC (fun _ pR sq=>?_) fun _ _ x=>x))));exact wpAny_release sq
theorem K1{M:Model}{o i:Expr}{p:Pos}{v:Value}{R:Unit->Shared->Prop}(hx:wpAny M A (eval o env) (fun ov bQ=>wpAny M A (eval i env) (fun iv pR=>wpAny M A (setItem ov iv v) R NE pR) NE bQ) NE s):wpAny M A (assign (.Subscript o i p) env v) R NE s:=by
 rw[arm_assign_Subscript];refine wpAny_bind (wpAny_holding (wpAny_mono hx (fun ov bQ jC=>?_) fun _ _ x=>x));refine wpAny_bind (wpAny_holding (wpAny_mono jC (fun iv pR sq=>?_) fun _ _ x=>x));refine wpAny_bind (wpAny_standAt (wpAny_bind (wpAny_holding (wpAny_mono sq (fun _ ab9 YN=>?_) fun _ _ x=>x))));exact wpAny_release YN
theorem Fb(H:iH W N G)(IH:eh W d (ev G C n) (aH N aJ))(a:iu d 2 A):∀(l:List (E×Str)) (ys:List Expr) (ds:List D) (vs:List Value) (as:List Addr) (g:Gh) (σ:St) (s:Shared) (K:St->Prop),tG N.attrs (aH N aJ env.scope.names) l ys=true->Inv W g σ s.heap->aS W g env ê s.heap->ReadsAll g.B vs ds as->y9 (ev G C n) l ds ê σ K->
  wpAny (model W.prog W.w) A (assignInOrder (List.map (fun x=>x.snd) (assignEach ys env)) vs) (yd W env g σ s fun d9 aF=>d9=ê/\K aF) NE s:=by
 intro l0
 induction l0 with
 |nil=>
  intro ys ds vs as g σ s K hc I Ce hr q;rcases ds with _|⟨d,ds⟩
  ·rcases ys with _|⟨y,ys⟩
   ·cases hr;exact wpAny_assignInOrder_none ⟨ê,g,σ,⟨rfl,q⟩,xy.refl I Ce⟩
   ·exact ff hc
  ·exact q.elim
 |cons p l ih=>
  intro ys ds vs as g σ s K hc I Ce hr q;rcases ds with _|⟨dd,ds⟩
  ·exact q.elim
  rcases ys with _|⟨y,ys⟩
  ·exact ff hc
  rcases hr with _|⟨r,rs⟩;obtain⟨h,h4⟩:=cx hc;refine ll h fun vo b pp h=>iy h fun h1 h2 h3=>?_;have e:=bj.mp h1;subst e;refine wpAny_assignInOrder_more (Gw (aR.go (IH _ _ env ê g σ s _ A h3 a I Ce q) fun m ov g' aF s' q r' nx=>?_));refine cQ (qw H nx.inv nx.bJ h2 r' (m:=.d dd) ⟨_,Reads.keeps nx.post.bm r⟩ q) fun _ s2 o=>?_;refine nW (o) fun g2 tO q2 iz=>?_;have NX:=(nx.trans iz).toS;exact cQ (ih ys ds _ _ g2 tO s2 K h4 iz.inv iz.bJ (ReadsAll.keeps (fun b o e=>iz.post.bm _ _ (nx.post.bm _ _ e)) rs) q2) fun _ _ o=>o.pre NX
theorem Fc{ck:E->Expr->Bool}{as:List Str}:∀{l:List (E×Str)} {ys:List Expr},tG as ck l ys=true->(assignEach ys env).length=l.length/\List.findIdx? (fun x=>x.fst) (assignEach ys env)=none:=by
 intro l0
 induction l0 with
 |nil=>
  intro l1;rcases l1 with _|⟨y0,nK⟩
  ·intro _;exact⟨rfl,rfl⟩
  ·intro hc;cases hc
 |cons x xs ih=>
  intro l1;rcases l1 with _|⟨y,ys⟩
  ·intro hc;cases hc
  ·intro hc;refine bc fun bf=>?_;obtain⟨h,h3⟩:=cx hc;obtain⟨a,b⟩:=ih h3;refine bf ?_;refine ll h fun v _ p h=>⟨congrArg (·+1) a,?_⟩;show List.findIdx? (fun x=>x.fst) ((false,_)::assignEach ys env)=none;rw[List.findIdx?_cons,b];rfl
theorem YO{sc:Sc}{y:Str}{x:Expr}(hc:zi N n sc (.x y) x=true):∃p,x=.Name y p/\fi sc y=true:=by
 refine dU hc fun z p hc=>dR hc fun h1 h2=>?_;cases bj.mp h1;exact⟨_,rfl,h2⟩
theorem K2{sc:Sc}{o:E}{nm:Str}{x:Expr}(hc:zi N n sc (.attr o nm) x=true):∃v p,x=.Attribute v nm p/\ua nm N.attrs=true/\aH N n sc o v=true:=by
 refine ll hc fun v b p hc=>iy hc fun h1 h2 h3=>?_;cases bj.mp h1;exact⟨_,_,rfl,h2,h3⟩
theorem Pj{sc:Sc}{o i:E}{x:Expr}(hc:zi N n sc (.sub o i) x=true):∃v w p,x=.Subscript v w p/\aH N n sc o v=true/\aH N n sc i w=true:=by
 exact pb hc fun v w p hc=>iy hc fun h1 h2 h3=>⟨_,_,_,rfl,h2,h3⟩
theorem Pk{sc:Sc}{xs:List Str}{x:Expr}(hc:zi N n sc (.tup xs) x=true):∃ys k p,x=.Tuple ys k p/\vl sc xs ys=true:=by
 exact qO hc fun ys k p hc=>⟨_,_,_,rfl,(cx hc).1⟩
theorem K3{sc:Sc}{l:List (E×Str)}{x:Expr}(hc:zi N n sc (.atts l) x=true):∃ys k p,x=.Tuple ys k p/\tG N.attrs (aH N n sc) l ys=true:=by
 exact qO hc fun ys k p hc=>⟨_,_,_,rfl,hc⟩
theorem yJ{h h':Heap}(e:Heap.ExtBut h.objs.size h h'):∀b o,h.get? b=some o->h'.get? b=some o:=fun b o q=>e b o (fun z=>by rw[z,cY h]at q;rcases q with _|_) q
theorem Aj(a:iu d 2 A)(I:Inv W g σ s.heap)(Ce:aS W g env ê s.heap){ys:List Expr}{k:Nat}{p:Pos}{l:List D}{v:Value}{R:Unit->Shared->Prop}(r:dP g.B (.tuple l) v)(hl:(assignEach ys env).length=l.length)(hf:List.findIdx? (fun x=>x.fst) (assignEach ys env)=none)
  (kk:∀(vs:List Value) as (s':Shared),ReadsAll g.B vs l as->dO W env ê g σ s g σ s'->wpAny (model W.prog W.w) A (assignInOrder (List.map (fun x=>x.snd) (assignEach ys env)) vs) R NE s'):wpAny (model W.prog W.w) A (assign (.Tuple ys k p) env v) R NE s:=by
 refine du r fun t vs as ht ra=>?_;refine wpAny_assign_Tuple a.handled (cC I.gM ht) (by rw[hl,<-readsAll_len ra];simp) hf fun h' he=>?_;have nx:dO W env ê g σ s g σ {s with heap:=h'}:=dO.ke I Ce (yJ he) rfl rfl;have:=kk vs as _ ra nx
 simpa using this
theorem U3{sc:Sc}{o k:E}{x:Expr}(hc:zi N n sc (.cut o k) x=true):∃v s p,x=.Subscript v s p:=
 vi (motive:=fun x=>∃v s p,x=.Subscript v s p) hc fun _ _ _ _ _ _ _ _ _ _ _ _=>⟨_,_,_,rfl⟩
theorem Nu(H:iH W N G)(a:iu d 2 A)(I:Inv W g σ s.heap)(Ce:aS W g env ê s.heap){o nn:E}{x:Expr}{m:ag}{v:Value}{K:ak->St->Prop}(hc:zi N aJ env.scope.names (.cut o nn) x=true)(r:bG W g m v)
  (q:jI m fun z=>dL z fun l=>ka l (ev G C n o ê σ (TL (ev G C n) nn ê K))):wpAny (model W.prog W.w) A (assign x env v) (yd W env g σ s K) NE s:=by
 refine vi hc fun v2 vp ln lp v' Jj cp w bp sp pos hc=>vf hc fun h1 h2 h3 h4 h5 h6 h7=>?_;have e1:=bj.mp h1;have e4:=bj.mp h4;subst e1 e4;clear hc;revert h5 h6 q;refine yu h7 fun xo xk=>?_;intro q h5 h6
 induction aJ using Nat.casesAuxOn with
 |zero=>exact ff h5
 |succ aJ=>
 induction n using Nat.casesAuxOn with
 |zero=>exact cN q fun z q=>Ju q fun l q=>gW q fun q=>nf q
 |succ n=>
 obtain⟨a1,a2⟩:=cx h5;refine nZ (cX a1) fun ui hd _ xu=>?_;subst ui;refine dU h6 fun z zp h6=>dR h6 fun b1 b2=>?_;refine nZ (cX b1) fun ui Kn _ Q0=>?_;subst ui;refine bc fun hn=>?_;revert r;refine cN q fun z q=>Ju q fun l q=>gW q fun q r=>?_;have q:oS (dE _ ê) fun mv=>oS (dE _ ê) fun mk=>Jg (res σ mv) fun i=>jI (res σ mk) fun y=>dI y fun kk=>zN kk fun m=>oL (σ.nU i) fun c r=>ka c ((m<=r.length/\r.length<=ah)/\K ê (σ.lg i (some (.list [] (r.drop m))))):=q;refine lL q fun mv YJ q=>lL q fun mk YK q=>?_;refine bR (Ce.vars _ _ YJ) fun vv hh rr=>?_;refine bR (Ce.vars _ _ YK) fun vk YL rk=>?_;have rr:=rG I rr;have rk:=rG I rk;revert rr rk;refine tA q fun i q=>cN q fun y q=>t9 q fun kk q=>Jv q fun m q=>qK q fun c r' es q=>?_;revert es;refine gW q fun q es rr rk=>hn ?_;refine bc fun bf=>?_;obtain⟨⟨hm,hb⟩,q⟩:=q;obtain⟨tk,rfl⟩:=i4 (show dP g.B (.int (m:Int)) vk from rk);refine bf ?_;refine lW (ie I es) fun pp ws k' e1 o1 hg hr=>?_;refine bR (rr) fun pp' e2 ja=>?_;subst ja;obtain rfl:=Option.some.inj (Option.some.inj (e1.symm.trans e2));have e0:=d6 hr;rw[ig,List.length_nil,Nat.zero_add]at e0;have Pg:ws.toArray.size=r'.length:=by simp[e0]
 refine nY (lx r) fun ae vse ase nR hae re=>?_;subst nR;rcases re with _|_;have qI:pp.1≠ae:=fun z=>by
  refine bR (hae) fun o ho _=>?_;have:=I.lM _ _ ho;rw[<-z,o1]at this;rcases this with _|_
 refine K1 (lu (h:=s.heap) Ce.kind hh hd ?_ (.inl xu));refine wpAny_Slice (wpAny_BinOp (wpAny_Call_ofName (rI H I Ce h3 (by rw[CG];decide) H.bl.1 H.bl.2 ?_)));have Nn:backTo cp (starEach [Expr.Name v2 Jj] env)=[(false,eval (.Name v2 Jj) env)]:=rfl;refine az (Nn) ?_;refine callWith_builtin rfl (evalArgs_plain (spliced_cons (lu (h:=s.heap) Ce.kind hh hd (spliced_nil ?_) (.inl xu))));refine PyProof.Rows.len_list (fO hg) (by rw[Pg];exact jn hb) ?_;refine lu (h:=s.heap) (env:=env) Ce.kind YL Kn ?_ (.inl Q0);refine sub_int ?_;refine wpAny_pure (wpAny_pure ?_);dsimp only;refine az (Pg) ?_;have ei:((r'.length:Int)-(m:Int))=((r'.length-m:Nat):Int):=by omega
 refine az (ei) ?_;have nx:∀tk,dO W env ê g σ s g σ {s with heap:=s.heap.push {cls:=.type "slice",data:=.fields #[.int ((r'.length-m:Nat):Int) (s.toks+1+1),.none,.none]},toks:=tk}:=fun tk=>dO.ke I Ce (fun b o e=>Heap.get?_push_of_some _ e) rfl rfl;have WG:=Heap.get?_push_of_some {cls:=.type "slice",data:=.fields #[.int ((r'.length-m:Nat):Int) (s.toks+1+1),.none,.none]} hg;refine Cq WG (Heap.IsSliceOf.new _ _ _ _) (bZ (nx 0).inv.gM hae) qI (by rw[Pg];exact Nat.sub_le _ _) (by rw[Pg];exact eH hb) fun f hf=>?_;have jc:=Cr (r'.length-m) hr;rw[<-EX]at jc;have iz:=oy (us:=ws.take (r'.length-m)) (x:=.b i) (c':=[]) (r':=r'.drop m) (nx (s.toks+1+1+1)).inv (nx (s.toks+1+1+1)).bJ ⟨pp,e1,rfl⟩ (show σ.obj (.b i)=_ from es) rfl WG f (by rw[hf,Ac]) jc (fun _ _=>rfl) (fun _ z=>nomatch z);exact⟨ê,g,_,q,((nx _).trans iz).toS⟩
set_option tactic.hygienic true in
theorem Q2(H:iH W N G)(IH:eh W d (ev G C n) (aH N aJ))(a:iu d 2 A)(I:Inv W g σ s.heap)(Ce:aS W g env ê s.heap){tg:Tg}{x:Expr}{m:ag}{v:Value}{K:ak->St->Prop}(hc:zi N aJ env.scope.names tg x=true)(r:bG W g m v)(q:MO (ev G C n) tg m ê σ K):
  wpAny (model W.prog W.w) A (assign x env v) (yd W env g σ s K) NE s:=by
 induction tg using Tg.casesOn with
 |x y=>
  refine bR (YO hc) fun p Kr h2=>?_;subst Kr;exact wpAny_assign_Name (Gv I Ce h2 r q)
 |attr o a2=>
  refine PS (K2 hc) fun o' p ja h2 h3=>?_;subst ja;refine Gw (aR.go (IH _ _ env ê g σ s _ A h3 a I Ce q) fun mo ov g' aF s' q r' nx=>?_);obtain⟨hv,q⟩:=fZ q;refine cQ (qw H nx.inv nx.bJ h2 r' (nx.rep r hv) q) fun _ s2 o=>?_;refine nW (o) fun g2 tO q2 iz=>?_;exact⟨ê,g2,tO,q2,(nx.trans iz).toS⟩
 |sub o i=>
  refine nY (Pj hc) fun v' w' p nR h2 h3=>?_;subst nR;refine K1 (aR.go (IH _ _ env ê g σ s _ A h2 a I Ce q) fun mo ov g' aF s' q r' nx=>?_);refine aR.go (IH _ _ env ê g' aF s' _ A h3 a nx.inv nx.bJ q) fun mi iv g2 tO s2 q r2 iz=>?_;obtain⟨hv,q⟩:=fZ q;obtain⟨QU,q⟩:=fZ q;refine cQ (EZ H iz.inv iz.bJ (iz.rep r' QU) r2 ((nx.trans iz).rep r hv) q) fun _ s3 o=>?_;refine nW (o) fun g3 nS q3 kZ=>?_;exact⟨ê,g3,nS,q3,((nx.trans iz).trans kZ).toS⟩
 |cut o nn=>exact Nu H a I Ce hc r q
 |tup xs=>
  refine bc fun hn=>?_;revert r;refine cN q fun z q=>Jt q fun l q r=>hn ?_;refine qd (Pk hc) fun ys k p nR h2=>?_;subst nR;obtain⟨e1,e2⟩:=wi (env:=env) h2;refine Aj a I Ce r (e1.trans (s7 q)) e2 fun vs as s' ra nx=>?_;refine cQ (CH _ _ _ vs as g σ s' ê _ h2 nx.inv nx.bJ ra q) fun _ s2 o=>?_;refine qd (o) fun d9 g' aF Nv lK=>?_;obtain⟨e,q'⟩:=Nv;subst e;exact⟨d9,g',_,q',nx.toS.trans lK⟩
 |atts l=>
  refine bc fun hn=>?_;revert r;refine cN q fun z q=>Jt q fun ds q r=>hn ?_;refine uW q fun hl q=>?_;refine qd (K3 hc) fun ys k p nR h2=>?_;subst nR;obtain⟨e1,e2⟩:=Fc (env:=env) h2;refine Aj a I Ce r (e1.trans (Nat.eq_of_beq_eq_true hl)) e2 fun vs as s' ra nx=>?_;refine cQ (Fb H IH a _ _ _ vs as g σ s' _ h2 nx.inv nx.bJ ra q) fun _ s2 o=>?_;refine qd (o) fun d9 g' aF Nv lK=>?_;obtain⟨e,q'⟩:=Nv;subst e;exact⟨_,g',_,q',nx.toS.trans lK⟩
end
section
variable{W:Wd}{N:Nm}{G:Own}{A:Around}{s:Shared}{g cD:Gh}{σ ab:St}{env:Env}{ê rL:ak}{d n aJ:Nat}{C:Cl}{Q:KF}{h h' jC:Heap}
theorem Ic(Ce:aS W g env ê h):interactive env=false:=by
 unfold interactive;rw[Ce.kind];rfl
theorem lA{v:Expr}{t:Option Expr}{l:Nat}(hv:(!uD v)=true):swapsWith v t l env=pure false:=by
 rcases v with _|_<;>first|rfl|rcases hv with _|_
theorem Q3(IH:eh W d (ev G C n) (aH N aJ))(a:iu d 2 A)(I:Inv W g σ s.heap)(Ce:aS W g env ê s.heap){e:E}{x:Stmt}(hc:lZ N (aJ+1) env.scope.names (.expr e) x=true)
  (q:ev G C n e ê σ fun _ ab=>Q .next ê ab):wpAny (model W.prog W.w) A (exec x env) (kF W env g σ s Q) NE s:=by
 refine Hh hc fun v pos hc=>dR hc fun h1 h2=>?_;exact wpAny_Expr_any (aR.go (IH e v env ê g σ s _ A h1 a I Ce q) fun m u g' aF s' q r nx=>⟨.next,ê,g',aF,q,trivial,nx.toS⟩) (Ic Ce) (lA h2)
theorem Q4(I:Inv W g σ s.heap)(Ce:aS W g env ê s.heap){x:Stmt}(hc:lZ N (aJ+1) env.scope.names .pass x=true)(q:Q .next ê σ):wpAny (model W.prog W.w) A (exec x env) (kF W env g σ s Q) NE s:=by
 exact JV hc fun _ _=>wpAny_Pass ⟨.next,ê,g,σ,q,trivial,xy.refl I Ce⟩
theorem Q5(I:Inv W g σ s.heap)(Ce:aS W g env ê s.heap){x:Stmt}(hc:lZ N (aJ+1) env.scope.names .cont x=true)(q:Q .cont ê σ):wpAny (model W.prog W.w) A (exec x env) (kF W env g σ s Q) NE s:=by
 exact JX hc fun _ _=>wpAny_Continue ⟨.cont,ê,g,σ,q,trivial,xy.refl I Ce⟩
theorem U4(IH:eh W d (ev G C n) (aH N aJ))(a:iu d 2 A)(I:Inv W g σ s.heap)(Ce:aS W g env ê s.heap){e:Option E}{x:Stmt}(hc:lZ N (aJ+1) env.scope.names (.ret e) x=true)
  (q:ex G C (n+1) (.ret e) ê σ Q):wpAny (model W.prog W.w) A (exec x env) (kF W env g σ s Q) NE s:=by
 refine MZ hc fun v pos hc=>?_
 induction e using Option.casesOn with
 |none=>
  induction v using Option.casesOn with
  |none=>exact wpAny_Return_none ⟨.ret (.d .none),ê,g,σ,q,⟨mH,rfl⟩,xy.refl I Ce⟩
  |some v=>cases hc
 |some e=>
  induction v using Option.casesOn with
  |none=>cases hc
  |some v=>
   refine wpAny_Return_some (aR.go (IH e v env ê g σ s _ A hc a I Ce q) fun m u g' aF s' q r nx=>?_);refine lW (yE nx.inv nx.bJ r q) fun m' g2 tO q2 r2 nt iz=>?_;exact⟨.ret m',ê,g2,tO,q2,⟨r2,nt⟩,(nx.trans iz).toS⟩
theorem Fd{x value:Expr}{pos:Pos}{M:Model}{R:Flow->Shared->Prop}(hx:assignEach [x] env=[(false,assign x env)])(hs:swapsWith value (some x) pos.line env=pure false)(hw:swappedStores [x] value env=pure none)
  (hh:wpAny M A (eval value env) (fun v bQ=>wpAny M A (assign x env v) (fun _=>R .next) NE bQ) NE s):wpAny M A (exec (.Assign [x] value pos) env) R NE s:=by
 refine wpAny_Assign_stores (cQ hh fun v bQ jC=>?_) hs hw;refine az (hx) ?_;exact jC
theorem iB.drop{g':Gh}{aF:St}{sq:Heap}(P:iB g σ h g' aF h'){a:Addr}(hn:h.get? a=none)(k:∀b o,b≠a->h'.get? b=some o->sq.get? b=some o):iB g σ h g' aF sq:=by
 refine⟨P.bm,fun b o e f=>?_,fun b o e f=>?_,fun b o e f=>?_,P.lb,P.lt,P.gm⟩
 ·refine nX (P.fo b o e f) fun x y z=>?_;exact⟨k _ _ (fun q=>by rw[q,hn]at e;rcases e with _|_) x,y,z⟩
 ·obtain⟨⟨o',x⟩,y⟩:=P.fr b o e f;exact⟨⟨o',k _ _ (fun q=>by rw[q,hn]at e;rcases e with _|_) x⟩,y⟩
 ·obtain⟨⟨o',x⟩,y⟩:=P.co b o e f;exact⟨⟨o',k _ _ (fun q=>by rw[q,hn]at e;rcases e with _|_) x⟩,y⟩
theorem Ie{y:Expr}{gs:List Comprehension}{scope:Scope}{p:Pos}{t:Str}{tp:Pos}{l:Nat}:∃b,swapsWith (.ListComp y gs scope p) (some (.Name t tp)) l env=pure b:=⟨_,rfl⟩
theorem CI{ck:E->Expr->Bool}{as:List Str}{f:Expr->Option Str}(hf:∀v b p,f (.Attribute v b p)=none):∀{l:List (E×Str)} {ys:List Expr},tG as ck l ys=true->ys.filterMap f=[]/\ys.length=l.length:=by
 intro l0
 induction l0 with
 |nil=>
  intro l1;rcases l1 with _|⟨y0,nK⟩
  ·intro _;exact⟨rfl,rfl⟩
  ·intro hc;cases hc
 |cons x xs ih=>
  intro l1;rcases l1 with _|⟨y,ys⟩
  ·intro hc;cases hc
  ·intro hc;obtain⟨h,h3⟩:=cx hc;obtain⟨a,b⟩:=ih h3;refine ll h fun v _ p h=>⟨?_,congrArg (·+1) b⟩;rw[List.filterMap_cons,hf];exact a
theorem Ak{ck:E->Expr->Bool}{as:List Str}{l:List (E×Str)}{ys vs:List Expr}{k k':Nat}{p p':Pos}(hc:tG as ck l ys=true)(hl:0<l.length):swappedStores [.Tuple ys k p] (.Tuple vs k' p') env=pure none:=by
 have hn:=fun(f:Expr->Option Str) (hf:∀v b p,f (.Attribute v b p)=none)=>CI hf hc;unfold swappedStores;dsimp only;split
 ·rfl
 ·split
  ·rfl
  ·have aux:∀{f:Expr->Option Str},(ys.filterMap f=[]/\ys.length=l.length)->((ys.filterMap f).length != ys.length)=true:=fun{f} ⟨e,e'⟩=>by
    rw[e,e'];simp;exact Nat.ne_of_lt (ai hl)
   rw[if_pos];rw[Bool.or_eq_true];left;exact aux (hn _ (fun _ _ _=>rfl))
theorem tQ{v:Expr}{ys:List Expr}{k:Nat}{p:Pos}(h:(!DZ v)=true):swappedStores [.Tuple ys k p] v env=pure none:=by
 rcases v with _|_<;>first|rfl|exact ff h
theorem CJ{ck:E->Expr->Bool}{as:List Str}{l:List (E×Str)}{v:Expr}{ys:List Expr}{k:Nat}{p:Pos}(hc:tG as ck l ys=true)(hl:0<l.length):swappedStores [.Tuple ys k p] v env=pure none:=by
 rcases v with _|_<;>first|rfl|exact Ak hc hl
theorem Q6(H:iH W N G)(HC:wc W d C)(hk:aJ<=n)(a:iu d 2 A)(I:Inv W g σ s.heap)(Ce:aS W g env ê s.heap){y:Str}{yp pos p:Pos}{Q7 it:E}{WV:Str}{cond:Option E}{fv:List Str}{elt:Expr}{gs:List Comprehension}{scope:Scope}
  (kI:fi env.scope.names y=true) (h2:aH N aJ env.scope.names (.comp Q7 WV it cond fv) (.ListComp elt gs scope p)=true) (hb:swapsWith (.ListComp elt gs scope p) (some (.Name y yp)) pos.line env=pure true)
  (q:ev G C n (.comp Q7 WV it cond fv) ê σ fun v ab=>MO (ev G C n) (.x y) v ê ab fun d9 au=>Q .next d9 au):wpAny (model W.prog W.w) A (exec (.Assign [.Name y yp] (.ListComp elt gs scope p) pos) env) (kF W env g σ s Q) NE s:=by
 refine az (exec_Assign_Name_used _ _ _ _ hb) ?_;refine wpAny_bind (wpAny_standAt (wpAny_bind ?_))
 induction aJ using Nat.casesAuxOn with
 |zero=>cases h2
 |succ aJ=>
 induction n using Nat.casesAuxOn with
 |zero=>exact q.elim
 |succ n=>
 clear hb;refine jf h2 fun gg h2=>vf h2 fun hg a5 a3 a6 a7 a8 a9=>?_;obtain⟨YI,iter,ifs,asy⟩:=gg;obtain⟨hn,hg⟩:=cx hg;obtain⟨ha,a4⟩:=cx hg;have e0:=of_decide_eq_true ha;subst e0;have hn:iN YI (fun t _=>eZ t WV&& !eZ t m5)=true:=hn;have a3:aH N aJ env.scope.names it iter=true:=a3;have a4:(!isSet iter)=true:=a4;have a8:vj (aH N aJ (pN env.scope.names scope.names)) cond ifs=true:=a8;refine dU hn fun t tp hn=>dR hn fun a1 a2=>?_;have e:=bj.mp a1;subst e;have IH':∀m,m<=n->eh W d (ev G C n) (aH N m):=fun m hm=>KY H HC n m hm;have Pd:scope.kind=.function:=by
  cases q:scope.kind<;>rw[q]at a9<;>first|rfl|exact ff a9
 have core:=yI (R:=fun _ s'=>kF W env g σ s Q .next s') (use:=some (assign (.Name y yp) env)) (pl:=fun vs=>match qL vs with|some _=>.fz|none=>.A6) (p:=tp) (pos:=p) (pos':=firstIterPos [⟨.Name t tp,iter,ifs,0⟩] p) H IH' (Nat.le_of_succ_le_succ hk) a I Ce a3 a4 a7 Pd a6 a8 q fun m g' aF s' Da Cf hQ r nx nC hO hB H6=>by
  obtain⟨mC,H6⟩:=H6;show wpAny _ A (assign (.Name y yp) env (.ref Da)) _ _ _;refine wpAny_assign_Name (oG nx.inv nx.bJ kI r fun h' tk iz SG=>?_);have hkC:∀o,s'.heap.get? Cf=some o->h'.get? Cf=some o:=fun o=>by
   rcases SG Cf o with z|z
   ·exfalso;rcases z with z|⟨x,c,e,z⟩
    ·refine SW (Ce.ns) fun m0 o0 _ _ ho _=>?_;rw[<-z,nC]at ho;rcases ho with _|_
    ·obtain⟨_,_,vo,o0,ho,_⟩:=Ce.cells x c e;rw[<-z,nC]at ho;rcases ho with _|_
   ·exact z
  refine⟨mC,Ns.at H6 hkC,fun h2 sb=>?_⟩;have keep:∀b o,b≠Cf->h'.get? b=some o->h2.get? b=some o:=fun b o hb e=>sb.extBut b o hb e;have NX:=nx.toS.trans iz;have I':=NX.inv.drop (h':=h2) hO hB keep fun b e hb=>by
   cases z:h'.get? b with
   |none=>rfl
   |some o=>rw[keep b o hb z]at e;rcases e with _|_
  exact⟨.next,_,g',aF,hQ,trivial,I',NX.bJ.drop hO keep,NX.post.drop nC keep,NX.gens,NX.os⟩
 show wpAny _ A (do let _ <-comprehension (.ListComp elt [⟨.Name t tp,iter,ifs,0⟩] scope p) scope env (firstIterPos [⟨.Name t tp,iter,ifs,0⟩] p) (newList []) false (eval iter env) (some (assign (.Name y yp) env))) _ _ s;exact wpAny_bind (wpAny_mono core (fun _ s' o=>wpAny_pure (wpAny_pure o)) fun _ _ x=>x)
theorem U5(H:iH W N G)(HC:wc W d C)(IH:∀m,m<=n->eh W d (ev G C n) (aH N m))(hk:aJ<=n)(a:iu d 2 A)(I:Inv W g σ s.heap)(Ce:aS W g env ê s.heap){tg:Tg}{e:E}{x:Stmt}(hc:lZ N (aJ+1) env.scope.names (.asg tg e) x=true)
  (q:ev G C n e ê σ fun v ab=>MO (ev G C n) tg v ê ab fun d9 au=>Q .next d9 au):wpAny (model W.prog W.w) A (exec x env) (kF W env g σ s Q) NE s:=by
 refine Gb hc fun ts v pos hc=>jf hc fun t hc=>iy hc fun h1 h2 h3=>?_;clear hc;have plain:assignEach [t] env=[(false,assign t env)]->swapsWith v (some t) pos.line env=pure false->swappedStores [t] v env=pure none->wpAny (model W.prog W.w) A (exec (.Assign [t] v pos) env) (kF W env g σ s Q) NE s:=fun e1 e2 e3=>by
  refine Fd e1 e2 e3 (aR.go (IH aJ hk e v env ê g σ s _ A h2 a I Ce q) fun m u g' aF s' q r nx=>?_);refine cQ (Q2 H (IH aJ hk) a nx.inv nx.bJ h1 r q) fun _ s2 o=>?_;refine qd (o) fun d9 g2 tO q2 iz=>?_;exact⟨.next,d9,g2,tO,q2,trivial,nx.toS.trans iz⟩
 rcases A7 h3 with h3|h3
 ·obtain⟨hn,h3⟩:=cx h3;revert h3;revert plain;revert h1;refine Hj hn fun y yp h1 plain h3=>?_;rcases A7 h3 with h3|h3
  ·exact plain rfl (lA h3) rfl
  ·obtain⟨c1,h3⟩:=cx h3;obtain⟨c2,c3⟩:=cx h3;clear h3;revert plain;revert q;revert h2;revert h1;refine JZ c1 fun Q7 WV it cond fv=>Hi c2 fun elt gs scope p=>T9 c3 fun z h1 h2 q plain=>?_;obtain⟨b,hb⟩:=Ie (env:=env) (y:=elt) (gs:=gs) (scope:=scope) (p:=p) (t:=y) (tp:=yp) (l:=pos.line)
   induction b using Bool.casesOn with
   |false=>exact plain rfl hb rfl
   |true=>
    refine bR (YO h1) fun _ heq kI=>?_;rcases heq with _|_;exact Q6 H HC hk a I Ce kI h2 hb q
 ·obtain⟨hn,h3⟩:=cx h3;obtain⟨h4,h5⟩:=cx h3
  induction tg using Tg.casesOn with
  |x y=>
   refine bR (YO h1) fun p Kr _=>?_;subst Kr;exact ff hn
  |attr o b=>
   refine nW (K2 h1) fun o' p ja _=>?_;subst ja;exact plain rfl (lA h4) rfl
  |sub o b=>
   refine qd (Pj h1) fun o' w p nR _=>?_;subst nR;exact plain rfl (lA h4) rfl
  |cut o b=>
   obtain⟨o',w,p,nR⟩:=U3 h1;subst nR;exact plain rfl (lA h4) rfl
  |tup xs=>
   refine qd (Pk h1) fun ys k p nR _=>?_;subst nR;refine plain rfl (lA h4) ?_;rcases A7 h5 with h5|h5
   ·exact ff h5
   rcases A7 h5 with h5|h5
   ·exact tQ h5
   ·exact ff h5
  |atts l=>
   refine qd (K3 h1) fun ys k p nR h6=>?_;subst nR;refine plain rfl (lA h4) ?_;rcases A7 h5 with h5|h5
   ·exact ff h5
   rcases A7 h5 with h5|h5
   ·exact tQ h5
   ·exact CJ h6 (of_decide_eq_true h5)
end
section
variable{W:Wd}{N:Nm}{G:Own}{A:Around}{s:Shared}{g cD:Gh}{σ ab:St}{env:Env}{ê rL:ak}{d n aJ:Nat}{C:Cl}{Q:KF}{h h' jC:Heap}
theorem uj{sc:Sc}:∀{xs:List Str},vm sc xs=true->∀x∈xs,fi sc x=true/\dF sc x=some .local:=by
 intro l0
 induction l0 with
 |nil=>intro _ x hm;cases hm
 |cons y xs ih=>
  intro hx x hm;obtain⟨h1,h2⟩:=cx hx;rcases List.mem_cons.mp hm with rfl|hm
  ·split at h1
   ·next e=>exact⟨by unfold fi;rw[e],e⟩
   ·exact ff h1
  ·exact ih h2 x hm
theorem K4:∀(xs:List Str) (l:List D) (vs:List Value) (as:List Addr) (g:Gh) (σ:St) (s:Shared) (ê:ak) (K:ak->Prop),(∀x∈xs,fi env.scope.names x=true)->Inv W g σ s.heap->aS W g env ê s.heap->ReadsAll g.B vs l as->tB xs l ê K->
  wpAny (model W.prog W.w) A (assignInOrder (xs.map fun n=>bindName env n) vs) (yd W env g σ s fun d9 aF=>aF=σ/\K d9) NE s:=by
 intro l0
 induction l0 with
 |nil=>
  intro l vs as g σ s ê K hc I Ce hr q;rcases l with _|⟨d,ds⟩
  ·cases hr;exact wpAny_assignInOrder_none ⟨ê,g,σ,⟨rfl,q⟩,xy.refl I Ce⟩
  ·exact q.elim
 |cons x xs ih=>
  intro l vs as g σ s ê K hc I Ce hr q;rcases l with _|⟨d,ds⟩
  ·exact q.elim
  ·cases hr with
   |cons r rs=>
    refine wpAny_assignInOrder_more (bindName_ (oG (m:=.d d) I Ce (hc x (.head _)) ⟨_,r⟩ fun h' tk nx _=>?_));exact cQ (ih ds _ _ g σ _ _ K (fun y hy=>hc y (.tail _ hy)) nx.inv nx.bJ rs q) fun _ _ o=>o.pre nx
theorem Al{h:Heap}{vs:List Value}{xs:List D}{as:List Addr}(r:ReadsAll h vs xs as):∃bs,ReadsAll h vs.reverse xs.reverse bs:=
 lh (motive:=fun vs xs=>∃bs,ReadsAll h vs.reverse xs.reverse bs) ⟨_,.nil⟩ (h1:=fun _ _ _ _ _ _ a r ⟨bs,q⟩=>by
  refine az (List.reverse_cons) ?_;refine az (List.reverse_cons) ?_;exact kC q (.cons a .nil)) r
set_option backward.match.sparseCases true in
theorem CK(hk:env.scope.kind=.function){x1 x2:Str}{p1 p2 p p':Pos}{vs:List Expr}{k k':Nat}(l1:env.kindOf x1=some .local)(l2:env.kindOf x2=some .local)(hl:(p1.line==p2.line)=true)(hd:x1≠x2)(h6:vs.length=2)
  (h8:(!(vs.all (foldedForSure 8)))=true) (h9:(!(vs.all (constantsAlone 8)))=true) (QD:(!vs.any isStar)=true):swappedStores [.Tuple [.Name x1 p1,.Name x2 p2] k p] (.Tuple vs k' p') env=pure (some [x1,x2]):=by
 have e:p1.line=p2.line:=eq_of_beq hl;have h8':vs.all (foldedForSure 8)=false:=by simpa using h8
 have h9':vs.all (constantsAlone 8)=false:=by simpa using h9
 have YQ:(vs.any fun|.Starred ..=>true|_=>false)=false:=by
  have e:isStar=fun x=>match x with|.Starred ..=>true|_=>false:=by
   funext x
   rcases x with _|_<;>rfl
  rw[<-e];simpa using QD
 have hb:(env.blockKind != ScopeKind.function)=false:=by unfold Env.blockKind;rw[hk];rfl
 have Kn:(x1==x2)=false:=by simpa using hd
 have hd2:(x2==x1)=false:=by simpa using Ne.symm hd
 unfold swappedStores;dsimp only;have er:([x1,x2]:List Str).eraseDups=[x1,x2]:=by
  simp[List.eraseDups_cons,hd2]
 have en:(List.filterMap (fun x=>match x with
  |Expr.Name id pos=>if(env.kindOf id==some .local&&pos.line==(([Expr.Name x1 p1,.Name x2 p2]:List Expr).head?.map (·.pos.line)).getD 0)=true then some id else none
  |_=>none) [Expr.Name x1 p1,.Name x2 p2])=[x1,x2]:=by
  have e1:(Expr.Name x1 p1).pos=p1:=rfl;simp[l1,l2,e1,e]
 refine az (if_neg (by rw[h6,hb];simp)) ?_;refine az (if_neg (fun z=>by have z':=YQ.symm.trans z;rcases z' with _|_)) ?_;rw[if_neg]
 ·refine az (if_neg (by rw[h8'];decide)) ?_;refine az (if_neg (by rw[h9'];decide)) ?_;exact congrArg (fun z=>pure (some z)) en
 ·intro z;have:∀{l:List Str},l=[x1,x2]->¬((l.length != ([Expr.Name x1 p1,Expr.Name x2 p2]:List Expr).length||l.eraseDups.length != l.length)=true):=fun{l} el=>by
   rw[el,er];simp
  exact this en z
theorem U6(IH:eh W d (ev G C n) (aH N aJ))(a:iu d 2 A)(I:Inv W g σ s.heap)(Ce:aS W g env ê s.heap){xs:List Str}{e:E}{x:Stmt}(hc:lZ N (aJ+1) env.scope.names (.Mw xs e) x=true)
  (q:ev G C n e ê σ fun v ab=>jI v fun z=>dT z fun l=>tB xs.reverse l.reverse ê fun d9=>Q .next d9 ab):wpAny (model W.prog W.w) A (exec x env) (kF W env g σ s Q) NE s:=by
 refine Gb hc fun ts v pos hc=>jf hc fun t hc=>qO hc fun ys k p hc=>qO hc fun vs k' p' hc=>vf hc fun h1 h2 h3 h4 h5 h6 h7=>lY h7 fun h7 h8 h9 QD=>?_;clear hc;have loc:=uj h3;have hw:swappedStores [.Tuple ys k p] (.Tuple vs k' p') env=pure (some xs):=by
  clear h4;revert h1;refine F7 h7 fun z1 z2 h7=>dU h7 fun x1 p1 h7=>dU h7 fun x2 p2 h7 h1=>?_;rcases xs with _|⟨y1,_|⟨y2,_|⟨y3,l⟩⟩⟩
  ·exact ff h1
  ·exact ff (cx h1).2
  ·obtain⟨a1,h1⟩:=cx h1;obtain⟨a2,_⟩:=cx h1;have e1:=bj.mp (cx a1).1;have e2:=bj.mp (cx a2).1;subst e1 e2;have nd:=oA h2;refine CK Ce.kind ?_ ?_ h7 (fun z=>?_) (of_decide_eq_true h6) h8 h9 QD
   ·rw[f7 rfl];exact(loc _ (.head _)).2
   ·rw[f7 rfl];exact(loc _ (.tail _ (.head _))).2
   ·rw[z]at nd;simp at nd
  ·exact ff (cx (cx h1).2).2
 refine Assign_Tuple_swapped (names:=xs) (aR.go (IH e _ env ê g σ s _ A h4 a I Ce q) fun m u g' aF s' q r nx=>?_) rfl hw;refine bc fun hn=>?_;revert r;refine cN q fun z q=>Jt q fun l q r=>hn ?_
 ·refine du r fun t vals as ht ra=>?_;have el:=s7 q;rw[List.length_reverse,List.length_reverse]at el;have e2:xs.length=vals.toArray.size:=by rw[el,<-readsAll_len ra];simp
  refine az (e2) ?_;refine unpackItems_tuple a.handled (cC nx.inv.gM ht) fun h' he=>?_;have iz:dO W env ê g' aF s' g' aF {s' with heap:=h'}:=dO.ke nx.inv nx.bJ (yJ he) rfl rfl;obtain⟨bs,rr⟩:=Al ra;have:=K4 (A:=A) xs.reverse l.reverse vals.reverse bs g' aF {s' with heap:=h'} ê _ (fun y hy=>(loc y (List.mem_reverse.mp hy)).1) iz.inv iz.bJ rr q;refine cQ (by simpa using this) fun _ s2 o=>?_;refine qd (o) fun d9 g2 tO Nv kZ=>?_;obtain⟨e,q'⟩:=Nv;subst e;exact⟨.next,d9,g2,_,q',trivial,(nx.trans iz).toS.trans kZ⟩
theorem Ig{x:Str}{v:Value}{R:Value->Shared->Prop}{M:Model}(hk:env.scope.kind=.function)(hh:X8 env s.heap x v)(hx:fi env.scope.names x=true)(q:R v s):wpAny M A (loadName env x) R NE s:=by
 rcases hh with⟨k,m,n,e⟩|⟨k,c,e,ic⟩
 ·exact wpAny_loadName_local hk k n e q
 ·rcases k with k|k
  ·exact wpAny_loadName_cell hk k e ic q
  ·exfalso;unfold fi at hx;rw[f7 rfl]at k;rw[k]at hx;rcases hx with _|_
theorem Gx{prog:Program}{w:World}{op:Op}{o:Operator}{a b:Int}{t u:Tok}{K:Int->Prop}{R:Value->Shared->Prop}(ho:Hg op o=true)(q:Hb op a b K)(k:∀z tk t',K z->R (.int z t') {s with toks:=tk}):wpAny (model prog w) A (inplaceOp o (.int a t) (.int b u)) R NE s:=by
 cases F4 ho;unfold Hb at q;split at q
 ·exact AutoIntOps.iadd_0 (k _ _ _ q)
 ·exact AutoIntOps.isub_0 (k _ _ _ q)
 ·exact q.elim
theorem U7(IH:eh W d (ev G C n) (aH N aJ))(a:iu d 2 A)(I:Inv W g σ s.heap)(Ce:aS W g env ê s.heap){y:Str}{op:Op}{e:E}{x:Stmt}(hc:lZ N (aJ+1) env.scope.names (.aug y op e) x=true)
  (q:oS (dE y ê) fun v=>jI v fun z=>dI z fun a=>ev G C n e ê σ fun w ab=>jI w fun z=>dI z fun b=>Hb op a b fun z=>Q .next (i9 y (.d (.int z)) ê) ab):wpAny (model W.prog W.w) A (exec x env) (kF W env g σ s Q) NE s:=by
 refine Ge hc fun t o v pos hc=>dU hc fun y' yp hc=>lY hc fun h1 h2 h3 h4=>?_;have e1:=bj.mp h1;subst e1;refine lL q fun v0 ei q=>?_;revert ei;refine cN q fun z q=>t9 q fun i q ei=>?_
 ·refine bR (Ce.vars _ _ ei) fun u hh r=>?_;obtain⟨t,rfl⟩:=i4 (show dP g.B (.int i) u from r);refine wpAny_AugAssign_Name (Ig Ce.kind hh h2 (aR.go (IH e v env ê g σ s _ A h4 a I Ce q) fun m u g' aF s' q r nx=>?_));refine bc fun hn=>?_;revert r;refine cN q fun z q=>t9 q fun b q r=>hn ?_
  ·obtain⟨t',rfl⟩:=i4 r;refine Gx h3 q fun z tk t2 hz=>?_;have iz:dO W env ê g' aF s' g' aF {s' with toks:=tk}:=dO.ke nx.inv nx.bJ (fun _ _ e=>e) rfl rfl;refine oG (m:=.d (.int z)) iz.inv iz.bJ h2 (ib _ _) fun h' tk kZ _=>?_;exact⟨.next,_,g',aF,hz,trivial,(nx.trans iz).toS.trans kZ⟩
theorem Q8(H:iH W N G)(IH:eh W d (ev G C n) (aH N aJ))(a:iu d 2 A)(I:Inv W g σ s.heap)(Ce:aS W g env ê s.heap){o:E}{nm:Str}{op:Op}{e:E}{x:Stmt}(hc:lZ N (aJ+1) env.scope.names (.DN o nm op e) x=true)
  (q:ev G C n o ê σ fun v ab=>Bj v nm ab fun x=>ev G C n e ê ab fun w au=>jI x fun x=>dI x fun x=>jI w fun y=>dI y fun y=>Hb op x y fun z=>xC v ab au (n4 v nm (.d (.int z)) au fun eE=>Q .next ê eE)):wpAny (model W.prog W.w) A (exec x env) (kF W env g σ s Q) NE s:=by
 refine Ge hc fun t o' w pos hc=>ll hc fun v b ap hc=>qg hc fun h1 h2 h3 h4 h5=>?_;have e1:=bj.mp h1;subst e1;refine wpAny_AugAssign_AttributeAny (aR.go (IH o v env ê g σ s _ A h4 a I Ce q) fun mo ov g' aF s' q r nx=>?_);refine aR.go (Gm H nx.inv nx.bJ h2 r q) fun mx vx g2 tO s2 q2 r2 iz=>?_;refine bc fun bf=>?_;obtain⟨e,q2⟩:=q2;subst e;refine bf ?_;refine aR.go (IH e w env ê g2 _ s2 _ A h5 a iz.inv iz.bJ q2) fun mw vw g3 nS s3 q3 r3 kZ=>?_;refine bc fun hn=>?_;revert r2 r3;refine cN q3 fun z q3=>t9 q3 fun i q3=>cN q3 fun z2 q3=>t9 q3 fun j q3 r2 r3=>hn ?_
 ·refine aK r2 fun t=>?_;refine bc fun bf=>?_;obtain⟨t',rfl⟩:=i4 r3;refine bf ?_;refine Gx h3 q3 fun z tk t2 hz=>?_;obtain⟨hv,hz⟩:=fZ hz;have HZ:dO W env ê g3 nS s3 g3 nS {s3 with toks:=tk}:=dO.ke kZ.inv kZ.bJ (fun _ _ e=>e) rfl rfl;refine cQ (qw H HZ.inv HZ.bJ h2 (kZ.rep (iz.rep r (fun _=>rfl)) hv) (m:=.d (.int z)) (ib _ _) hz) fun _ s5 o=>?_;refine nW (o) fun g5 YE q5 WS=>?_;exact⟨.next,ê,g5,YE,q5,trivial,((((nx.trans iz).trans kZ).trans HZ).trans WS).toS⟩
theorem U8(H:iH W N G)(IH:∀m,m<=n->eh W d (ev G C n) (aH N m))(IX:KZ W d (ex G C n) (lZ N aJ))(hk:aJ<=n)(a:iu d 2 A)(I:Inv W g σ s.heap)(Ce:aS W g env ê s.heap){c:E}{t e:List T}{x:Stmt}(hc:lZ N (aJ+1) env.scope.names (.fL c t e) x=true)
  (q:DR (ev G C n) G.tab n c ê σ fun b' ab=>match b' with
   |true=>gz (ex G C n) t ê ab Q
   |false=>gz (ex G C n) e ê ab Q):wpAny (model W.prog W.w) A (exec x env) (kF W env g σ s Q) NE s:=by
 refine M1 hc fun u v w pos hc=>iy hc fun h1 h2 h3=>?_;refine wpAny_If (uh.go (Ae H IH a n c u g σ s _ aJ hk h1 I Ce q) fun b g' aF s' q nx=>?_)
 induction b using Bool.casesOn with
 |true=>exact kF.on nx.toS (mM IX a t v g' aF s' ê Q h2 nx.inv nx.bJ q)
 |false=>exact kF.on nx.toS (mM IX a e w g' aF s' ê Q h3 nx.inv nx.bJ q)
theorem U9(H:iH W N G)(IH:∀m,m<=n->eh W d (ev G C n) (aH N m))(IX:KZ W d (ex G C n) (lZ N aJ))(hk:aJ<=n)(a:iu d 2 A)(I:Inv W g σ s.heap)(Ce:aS W g env ê s.heap){c:E}{b:List T}{x:Stmt}(hc:lZ N (aJ+1) env.scope.names (.PY c b) x=true)
  (q:za (DR (ev G C n) G.tab n c) (ex G C n) b DQ ê σ Q):wpAny (model W.prog W.w) A (exec x env) (kF W env g σ s Q) NE s:=by
 refine Qp hc fun u v els pos hc=>tF hc fun hc=>dR hc fun h1 h2=>?_;refine wpAny_While (codeAny_whileLoop (fun k s'=>∃d9 g' aF,za (DR (ev G C n) G.tab n c) (ex G C n) b k d9 aF Q/\xy W env g σ s d9 g' aF s') ?_ DQ ⟨ê,g,σ,q,xy.refl I Ce⟩)
 rintro k s' ⟨d9,g',aF,q,nx⟩
 induction k using Nat.casesAuxOn with
 |zero=>exact q.elim
 |succ k=>
  refine wpAny_mono (uh.go (Ae (ê:=d9) H IH a n c u g' aF s' _ aJ hk h1 nx.inv nx.bJ q) fun t g2 tO s2 q2 iz=>?_) (fun _ _ z=>z) fun _ _ z=>z.elim
  induction t using Bool.casesOn with
  |false=>
   simp only[Bool.false_eq_true,if_false];exact wpAny_execs_nil ⟨.next,d9,g2,tO,q2,trivial,nx.trans iz.toS⟩
  |true=>
   simp only[if_true];refine wpAny_mono (mM IX a b v g2 tO s2 d9 _ h2 iz.inv iz.bJ q2) (fun f s3 o=>?_) fun _ _ z=>z.elim;refine MI (o) fun fl Va g3 nS q3 r3 kZ=>?_;have NX:=(nx.trans iz.toS).trans kZ
   induction fl using Fl.casesOn with
   |next=>rcases f with _|_<;>first|exact r3.elim|exact⟨k,Nat.lt_succ_self _,Va,g3,nS,q3,NX⟩
   |cont=>rcases f with _|_<;>first|exact r3.elim|exact⟨k,Nat.lt_succ_self _,Va,g3,nS,q3,NX⟩
   |ret m=>rcases f with _|_<;>first|exact r3.elim|exact⟨.ret m,Va,g3,nS,q3,r3,NX⟩
end
inductive Vb(W:Wd)(env:Env)(xs:List D)(It:Nat->Heap->Prop)(Rel:Gh->Prop)(Ia:Addr)(cD:Gh)(ab:St)(bQ:Shared)(F:List D->ak->St->Prop)(k:Nat)(s':Shared):Prop
 |mk (ys:List D) (d9:ak) (g':Gh) (aF:St) (SI:xs.drop k=ys) (WL:k<=xs.length) (q:F ys d9 aF) (I':Inv W g' aF s'.heap) (YR:aS W g' env d9 s'.heap) (CC:g'.O Ia=.no) (H7:g'.B.get? Ia=none) (KU:It k s'.heap) (P:iB cD ab bQ.heap g' aF s'.heap) (Ai:Rel g') (SM:s'.gens=bQ.gens) (z9:s'.os=bQ.os):Vb W env xs It Rel Ia cD ab bQ F k s'
section
variable{W:Wd}{N:Nm}{G:Own}{A:Around}{s:Shared}{g cD:Gh}{σ ab:St}{env:Env}{ê rL:ak}{d n aJ:Nat}{C:Cl}{Q:KF}{h h' jC:Heap}
theorem bG.Vc{g':Gh}{aF:St}(P:iB g σ h g' aF h'):∀{m:ag} {v:Value},ku m=false->bG W g m v->bG W g' m v:=by
 intro m v hv r
 induction m using ag.casesOn with
 |d _=>exact dP.mono P.bm r
 |ob _ _=>exact Jq r fun a dx es n e h1 h2 h3=>⟨a,dx,es,n,e,P.bm _ _ h1,P.bm _ _ h2,h3.mono P.bm⟩
 |b i=>exact bR r fun p e ev=>⟨p,P.lb i p e (fun z=>ff ((show A8 i=false from hv).symm.trans z)),ev⟩
 |t i=>exact bR r fun a e ev=>⟨a,P.lt i a e,ev⟩
 |_=>exact r
set_option tactic.hygienic true in
theorem K5(a:iu d 2 A)(I:Inv W g σ s.heap)(Ce:aS W g env ê s.heap){so:List Str}{x:Expr}{dd:D}{v:Value}{K:ak->Prop}(hc:T7 env.scope.names so x=true)(r:dP g.B dd v)(q:bind1 so dd ê K):
  wpAny (model W.prog W.w) A (assign x env v) (yd W env g σ s fun d9 aF=>aF=σ/\K d9) NE s:=by
 unfold bind1 at q;split at q
 ·exact q.elim
 ·rename_i y;rcases x with _|_<;>first|(rcases hc with _|_;done)|skip
  ·obtain⟨h1,h2⟩:=cx hc;have e:=bj.mp h1;subst e;exact wpAny_assign_Name (Gv (m:=.d dd) I Ce h2 r ⟨rfl,q⟩)
  ·obtain⟨_,h⟩:=cx hc;exact ff (cx h).2
 ·rename_i y z rest;split at q
  ·rename_i l;rcases x with _|_<;>first|(rcases hc with _|_;done)|skip
   rename_i ys k p;have h1:=(cx hc).1;obtain⟨e1,e2⟩:=wi (env:=env) h1;refine Aj a I Ce r (e1.trans (s7 q)) e2 fun vs as s' ra nx=>?_;refine cQ (CH _ _ _ vs as g σ s' ê _ h1 nx.inv nx.bJ ra q) fun _ s2 o=>?_;refine qd (o) fun d9 g' aF Nv lK=>?_;obtain⟨e,q'⟩:=Nv;exact⟨d9,g',aF,⟨e,q'⟩,nx.toS.trans lK⟩
  ·exact q.elim
theorem Vd(H:iH W N G)(IH:∀m,m<=n->eh W d (ev G C n) (aH N m))(IX:KZ W d (ex G C n) (lZ N aJ))(hk:aJ<=n)(a:iu d 2 A)(I:Inv W g σ s.heap)(Ce:aS W g env ê s.heap){so:List Str}{it:E}{b:List T}{x:Stmt}(hc:lZ N (aJ+1) env.scope.names (.gN so it b) x=true)
  (q:mq (ev G C n) it ê σ fun xs w ab=>forL (ex G C n) so b w xs ê ab Q):wpAny (model W.prog W.w) A (exec x env) (kF W env g σ s Q) NE s:=by
 refine JT hc fun tx iter body els pos hc=>tF hc fun hc=>lY hc fun h1 h2 h3 h4=>?_;refine wpAny_For (cQ (KQ H IH hk a I Ce h2 q) fun xv sA hA=>cQ hA fun itv sB hB=>?_) (UY h3);refine OP (hB) fun xs w cD ab bQ Ia It Rel YG q nx S Pe QW nI hlen keep hg ho ok=>?_;subst YG;have hOI:cD.O Ia=.no:=nx.inv.live _ nI;have hBI:cD.B.get? Ia=none:=jk nx.inv nI;obtain⟨IV,SH,Yz⟩:=opq (Vb W env xs It Rel Ia cD ab bQ fun ys d9 aF=>forL (ex G C n) so b w ys d9 aF Q) (xs.length+1);refine codeAny_forLoop_any IV ?_ (xs.length+1) (SH 0 _ ⟨xs,ê,cD,ab,rfl,Nat.zero_le _,q,(nx.inv.ke keep).1,nx.bJ.post (nx.inv.ke keep).2 (fun _=>rfl),hOI,hBI,Pe,(nx.inv.ke keep).2.s,QW,hg,ho⟩);intro nn s' UW;refine bc fun bf=>?_;obtain⟨k,rfl,ys,d9,g',aF,SI,WL,q,I',YR,CC,H7,KU,P,Ai,SM,z9⟩:=Yz nn s' UW;refine bf ?_;clear bf UW;have q:forL (ex G C n) so b w ys d9 aF Q:=q
 induction ys using List.casesOn with
 |nil=>
  obtain⟨YS,q⟩:=lS (show je w aF (Q .next d9 aF)from q);have:=tP SI WL;subst this;refine S.done g' aF s' _ _ KU I' Ai YS CC H7 fun h' tk kp=>wpAny_execs_nil ?_;have I2:=I'.drop (h':=h') CC H7 kp fun b e hb=>by
   cases z:s'.heap.get? b with
   |none=>rfl
   |some o=>rw[kp b o hb z]at e;rcases e with _|_
  exact⟨.next,d9,g',aF,q,trivial,I2,YR.drop CC kp,nx.post.s.trans (P.drop nI kp),SM.trans nx.gens,z9.trans nx.os⟩
 |cons x ys=>
  refine nX (nB SI) fun hx Nr pY=>?_;obtain⟨YS,q⟩:=lS q;refine S.item k g' aF s' x _ _ KU I' Ai YS CC H7 hx fun v h' tk QU CD kp=>?_;have I2:=I'.drop (h':=h') CC H7 kp fun b e hb=>by
   cases z:s'.heap.get? b with
   |none=>rfl
   |some o=>rw[kp b o hb z]at e;rcases e with _|_
  have YB:=YR.drop (h':=h') CC kp;have P2:=P.drop (sq:=h') nI kp;refine S.go (k+1) {s' with heap:=h',toks:=tk} tx v _ _ CD ?_;refine wpAny_mono (K5 (s:={s' with heap:=h',toks:=tk}) (σ:=aF) a I2 YB h1 QU q) (fun _ s3 o=>?_) fun _ _ z=>z.elim;refine qd (o) fun Va g3 nS Nv kZ=>?_;obtain⟨e3,q3⟩:=Nv;subst e3;refine wpAny_mono (mM IX a b body g3 _ s3 Va _ h4 kZ.inv kZ.bJ q3) (fun f s4 o=>?_) fun _ _ z=>z.elim;refine MI (o) fun fl YT g4 WR q4 r4 HZ=>?_;have NX:=kZ.trans HZ;obtain⟨oI,MB⟩:=S.live _ _ CD;refine nX (NX.post.fo Ia _ MB CC) fun i1 i2 i3=>?_;have nxt:∀q:forL (ex G C n) so b w ys YT WR Q,∃m,m<xs.length+1-k/\IV m s4:=fun q=>
   ⟨xs.length+1-(k+1),by omega,SH (k+1) _ ⟨ys,YT,g4,WR,Nr,pY,q,NX.inv,NX.bJ,i2,i3.trans H7,S.fr _ _ _ CD (fun o e=>by rw[MB]at e;rcases e with _|_;exact i1),P2.trans NX.post,S.mono _ _ (fun m v hm r=>r.Vc NX.post hm) Ai,NX.gens.trans SM,NX.os.trans z9⟩⟩
  induction fl using Fl.casesOn with
  |next=>rcases f with _|_<;>first|exact r4.elim|exact nxt q4
  |cont=>rcases f with _|_<;>first|exact r4.elim|exact nxt q4
  |ret m=>rcases f with _|_<;>first|exact r4.elim|exact⟨.ret m,YT,g4,WR,q4,r4,NX.inv,NX.bJ,nx.post.s.trans (P2.trans NX.post),(NX.gens.trans SM).trans nx.gens,(NX.os.trans z9).trans nx.os⟩
theorem Pl(H:iH W N G)(HC:wc W d C):∀n m,m<=n->KZ W d (ex G C n) (lZ N m)
 |0,m,hm=>fun e x env ê g σ s Q A hc a I Ce q=>q.elim
 |n+1,0,hm=>fun e x env ê g σ s Q A hc a I Ce q=>by cases hc
 |n+1,k+1,hm=>fun e x env ê g σ s Q A hc a I Ce q=>by
  have IH:∀m,m<=n->eh W d (ev G C n) (aH N m):=fun m hm=>KY H HC n m hm;have hk:k<=n:=Nat.le_of_succ_le_succ hm;have IX:=Pl H HC n k hk;have ih:=IH k hk
  induction e using T.casesOn with
  |expr e=>exact Q3 ih a I Ce hc q
  |pass=>exact Q4 I Ce hc q
  |cont=>exact Q5 I Ce hc q
  |ret e=>exact U4 ih a I Ce hc q
  |asg t e=>exact U5 H HC IH hk a I Ce hc q
  |Mw xs e=>exact U6 ih a I Ce hc q
  |aug x op e=>exact U7 ih a I Ce hc q
  |DN o a' op e=>exact Q8 H ih a I Ce hc q
  |fL c a' b=>exact U8 H IH IX hk a I Ce hc q
  |PY c b=>exact U9 H IH IX hk a I Ce hc q
  |gN tg it b=>exact Vd H IH IX hk a I Ce hc q
  |no=>exact q.elim
end
noncomputable def Am(W:Wd)(N:Nm)(P:Defs):Prop:=
 ∀f,(∃body sc,FnAt W f (P.par f) body sc/\qR (lZ N 60 sc.names) (P.code f) body=true)\/P.code f=[.no]
section
variable{W:Wd}{N:Nm}{G:Own}{A:Around}{s:Shared}{g cD:Gh}{σ ab:St}{env:Env}{ê rL:ak}{d n aJ:Nat}{C:Cl}{h h' jC:Heap}{P:Defs}
theorem lB{x:Str}:∀(names:List (Str×NameKind)) (n:Nat) (acc:List (Str×Addr)),(x,NameKind.cell)∈names\/(∃c,acc.lookup x=some c)->∃c,(cellsFrom n names acc).lookup x=some c
 |[],n,acc,hx=>by
  rcases hx with hx|hx
  ·rcases hx with _|_
  ·exact hx
 |(y,k)::r,n,acc,hx=>by
  unfold cellsFrom;split
  ·refine lB r _ _ ?_;rcases hx with hx|⟨c,hx⟩
   ·rcases List.mem_cons.mp hx with e|hx
    ·rcases e with _|_;exact .inr ⟨n,by rw[List.lookup_cons,beq_self_eq_true]⟩
    ·exact .inl hx
   ·refine .inr ?_;refine az (List.lookup_cons) ?_;cases z:x==y with
    |true=>exact⟨n,rfl⟩
    |false=>exact⟨c,hx⟩
  ·rename_i hk;refine lB r _ _ ?_;rcases hx with hx|hx
   ·rcases List.mem_cons.mp hx with e|hx
    ·rcases e with _|_;exact absurd rfl hk
    ·exact .inl hx
   ·exact .inr hx
theorem lookup_mem{α:Type}{x:Str}{c:α}:∀{l:List (Str×α)},l.lookup x=some c->(x,c)∈l
 |(y,d)::l,e=>by
  rw[List.lookup_cons]at e;cases z:x==y with
  |true=>rw[z]at e;rcases e with _|_;rw[eq_of_beq z];exact .head _
  |false=>rw[z]at e;exact .tail _ (lookup_mem e)
theorem Nw{x:Str}{m:ag}:∀{ps:List Str} {vs:List ag},dE x (ps.zip vs)=some m->x∈ps/\m∈vs:=by
 intro l0
 induction l0 with
 |nil=>
  intro _ e;cases e
 |cons p ps ih=>
  intro l1;rcases l1 with _|⟨v,vs⟩
  ·intro e;cases e
  ·intro e;have e:(match eZ p x with|true=>some v|false=>dE x (ps.zip vs))=some m:=e;cases q:eZ p x with
   |true=>rw[q]at e;rcases e with _|_;rw[<-bj.mp q];exact⟨.head _,.head _⟩
   |false=>rw[q]at e;obtain⟨a,b⟩:=ih e;exact⟨.tail _ a,.tail _ b⟩
theorem K6{cs:List (Str×Addr)}(hp:cs.Pairwise fun x y=>x.2≠y.2){x y:Str}{c:Addr}(h1:(x,c)∈cs)(h2:(y,c)∈cs):x=y:=by
 induction cs with
 |nil=>cases h1
 |cons p cs ih=>
  obtain⟨a,b⟩:=List.pairwise_cons.mp hp;rcases List.mem_cons.mp h1 with e1|h1
  ·rcases List.mem_cons.mp h2 with e2|h2
   ·rw[<-e1]at e2;rcases e2 with _|_;rfl
   ·exact absurd rfl (by have:=a _ h2;rw[<-e1]at this;exact this)
  ·rcases List.mem_cons.mp h2 with e2|h2
   ·exact absurd rfl (by have:=a _ h1;rw[<-e2]at this;exact this)
   ·exact ih b h1 h2
theorem Nx(H:iH W N G)(HD:Am W N P)(HC:wc W d (Cd G P d)):wc W (d+1) (Cd G P (d+1)):=by
 intro f vs vals g σ s A Q a I r nt q;have q:(match Nat.beq (P.par f).length vs.length with
  |true=>gz (ex G (Cd G P d) 60) (P.code f) ((P.par f).zip vs) {σ with temps:=[]} (fQ Q)
  |false=>False):=q
 split at q
 ·rename_i hl;have hl:=Nat.eq_of_beq_eq_true hl;rcases HD f with⟨body,sc,F,YU⟩|Mx
  ·refine S9 (F.ob) fun o fd as ho KG xu Ve E8 YV hgl CL Ih YW has=>?_;have up:∀b o,W.h₀.get? b=some o->s.heap.get? b=some o:=fun b o e=>I.gM _ _ (I.fR _ _ e);have hvl:=d6 r;have Pm:bindArgs fd ⟨vals,[]⟩=pure ((as.map (·.arg)).zip vals):=vd YW Ih (by rw[has];exact F.nd) (by rw[has,hl,hvl]);rw[has]at Pm;have kinds:∀x∈P.par f,fd.scope.names.lookup x=some .local\/fd.scope.names.lookup x=some .cell:=fun x hx=>by
    have:=List.all_eq_true.mp F.kinds x hx;rw[E8]
    simpa using this
   refine codeAny_call_cells (by have:=a.depth;show _<1000;exact ai this) (up _ _ ho) KG (H.nolimit.keeps up) (xu.keeps up) Ve Pm YV ?_ (fun bQ x=>?_) (by rw[E8];exact F.co) (by rw[E8];exact F.gen) (by rw[E8];exact F.kind)
   ·intro x hx;rcases kinds x.1 (List.of_mem_zip hx).1 with q|q
    ·exact .inl q
    ·refine .inr ⟨q,?_⟩;obtain⟨c,e⟩:=lB (x:=x.1) fd.scope.names (s.heap.objs.size+1) [] (.inl (lookup_mem q));rw[e];rfl
   ·refine nW (x.done) fun hh tk Vf keep=>?_;subst Vf;have hL:s.heap.get? s.heap.objs.size=none:=cY _
    let fr:Addr->Bool:=fun b=>@decide (b=s.heap.objs.size\/∃y,(cellsFrom (s.heap.objs.size+1) fd.scope.names []).lookup y=some b) (Classical.propDecidable _)
    have YX:∀b,fr b=true↔(b=s.heap.objs.size\/∃y,(cellsFrom (s.heap.objs.size+1) fd.scope.names []).lookup y=some b):=fun b=>@decide_eq_true_iff _ (Classical.propDecidable _);have hf:∀b,fr b=true->s.heap.get? b=none/\∃o,hh.get? b=some o:=fun b e=>by
     rcases(YX b).mp e with e|⟨y,e⟩
     ·subst e;refine⟨hL,?_⟩;refine qd (x.toInCall.ns) fun o _ _ ho _=>?_;exact⟨o,ho⟩
     ·have pY:=x.above y b (lookup_mem e);refine⟨?_,?_⟩
      ·cases z:s.heap.get? b with
       |none=>rfl
       |some o=>exact absurd (Heap.lt_size z) (Nat.not_lt.mpr (Nat.le_of_lt pY))
      ·refine bR (x.cell y b e) fun o ho _=>?_;exact⟨o,ho⟩
    have I1:=Qi (h':=hh) I keep hf;have JD:∀b,fr b=true->(xE g fr).O b=.fr:=fun b e=>by
     show(match fr b with|true=>Tag.fr|false=>jK (g.O b))=.fr;rw[e]
    have C1:aS W (xE g fr) (callEnvC fd s.heap.objs.size (W.fa f)) ((P.par f).zip vs) hh:=by
     have hkf:∀x,(callEnvC fd s.heap.objs.size (W.fa f)).kindOf x=fd.scope.names.lookup x:=fun x=>rfl;refine⟨by show fd.scope.kind=_;rw[E8];exact F.kind,JD _ ((YX _).mpr (.inl rfl)),⟨_,x.toInCall.ns⟩,fun y m e=>?_,fun y c e=>?_,fun y z c e1 e2=>?_,⟨hgl,CL⟩,fun y e=>?_⟩
     ·refine i8 (Bu (kf:=(callEnvC fd s.heap.objs.size (W.fa f)).kindOf) (m:=fun _=>none) (cm:=fun _=>none) F.nd hl r e) fun v rv b1 b2=>?_;obtain⟨m1,m2⟩:=Nw e;refine⟨v,?_,bG.WA (g:=g) (g':=xE g fr) (fun _ _ e=>e) (fun _ _ e=>e) (su nt _ m2) rv⟩;rcases kinds y m1 with k|k
      ·exact .inl ⟨k,_,x.toInCall.ns,b1 k⟩
      ·obtain⟨c,ec⟩:=lB (x:=y) fd.scope.names (s.heap.objs.size+1) [] (.inl (lookup_mem k));refine .inr ⟨.inl k,c,ec,?_⟩;have:=x.cell y c ec;rw[b2 (by rw[hkf,k];exact fun z=>nomatch z)]at this;exact this
     ·exact⟨JD _ ((YX _).mpr (.inr ⟨y,e⟩)),Nat.ne_of_gt (x.above y c (lookup_mem e)),_,x.cell y c e⟩
     ·exact K6 x.apart (lookup_mem e1) (lookup_mem e2)
     ·rw[hkf]at e;rcases e with e|e
      ·exact lB fd.scope.names _ [] (.inl (lookup_mem e))
      ·have:=List.all_eq_true.mp F.Qg _ (by rw[<-E8];exact lookup_mem e);simp at this
    have aok:iu d 2 (A.deeper (callEnvC fd s.heap.objs.size (W.fa f))):=by
     refine⟨a.handled,?_,?_,a.guards⟩
     ·have:=a.depth;show A.depth+1+_+_<_;exact ai this
     ·have:=a.units;show A.units+3+_+_<_;exact ai this
    have UU:(callEnvC fd s.heap.objs.size (W.fa f)).scope.names=sc.names:=by show fd.scope.names=_;rw[E8]
    refine wpAny_mono (mM (Pl H HC 60 60 (Nat.le_refl _)) aok (P.code f) body (xE g fr) (Qh σ) _ _ _ (by rw[UU];exact YU) I1 C1 q) (fun fl s' out=>?_) fun _ _ z=>z.elim;refine MI (out) fun fl' d9 g' aF q rf nx=>?_;obtain⟨I2,P2⟩:=Qj I keep hf nx.inv nx.post;have fin:∀m v,Q m aF->j9 m=true->bG W g' m v->Nl W g σ s Q (.ok (.ret v)) s':=fun m v q nt r=>
     ⟨m,sx g g',aF,q,nt,bG.WA (g:=g') (g':=sx g g') (fun _ _ e=>e) (fun _ _ e=>e) nt r,I2,P2,nx.gens,nx.os⟩
    induction fl' using Fl.casesOn with
    |next=>rcases fl with _|_<;>first|exact rf.elim|exact fin (.d .none) _ q rfl mH
    |cont=>exact q.elim
    |ret m=>
     rcases fl with _|_<;>first|exact rf.elim|skip
     rename_i v;obtain⟨rm,nt'⟩:=rf;have q:Q m aF:=by
      unfold fQ at q;dsimp only at q;split at q
      ·exact q.elim
      ·exact q
     exact fin m v q nt' rm
  ·rw[Mx]at q;exact q.elim
 ·exact q.elim
theorem Pn(H:iH W N G)(HD:Am W N P):∀d,wc W d (Cd G P d)
 |0=>fun f vs vals g σ s A Q a I r nt q=>q.elim
 |d+1=>Nx H HD (Pn H HD d)
end
end jB
namespace jB.F
open PySem
section
set_option genCtorIdx false
set_option genCtorIdx true in
inductive Th where
 |obj
 |lit (k:Int)
noncomputable def Q9:Th->List D
 |.obj=>[.str iE,.int (.ofNat 0),.int (.ofNat 1),.str Ba]
 |.lit k=>[.str pZ,.int (.ofNat 0),.int k]
noncomputable def oH(t:Th):D:=.tuple (Q9 t)
noncomputable def qB:Option Th->D
 |none=>.none
 |some t=>oH t
noncomputable abbrev tR:D:=.tuple [.str iE,.int (.ofNat 0),.int (.ofNat 0),.str SE]
noncomputable abbrev Po:D:=.tuple [.str iE,.int (.ofNat 0),.int (.ofNat 0),.str Ba]
noncomputable def gU:Option Th->D
 |some t=>.tuple [.str xF,oH t]
 |none=>.tuple [.str iX,tR]
noncomputable def cE:Bool->Str
 |false=>qm
 |true=>⟨⟨[101,49]⟩⟩
structure eR where
 pre:Th
 ent:Bool
 aP:Option Th
 args:List (Option Th)
noncomputable def j6(l:Int)(c:eR):D:=.tuple [.str cu,.int l,oH c.pre,.str (cE c.ent),qB c.aP,.list (c.args.map gU)]
noncomputable def jr(l:Int)(t:Th)(u:Bool):D:=.tuple [.str bE,.int l,oH t,.bool u]
noncomputable def dZ:Bool->D
 |false=>.list []
 |true=>.list [.str s_p]
noncomputable def oJ:Option Bool->D
 |none=>.none
 |some false=>.tuple [.str pZ,.int (.ofNat 0),.int (.ofNat 0)]
 |some true=>.tuple [.str pZ,.int (.ofNat 0),.int (.ofNat 1)]
noncomputable def Vg:Bool->D
 |false=>.none
 |true=>Po
inductive cR where
 |acc (g:Option Bool) (l:Int) (e:Bool) (aP:Option Th) (fm:Bool) (b r:List D)
 |dr (g:Option Bool) (l:Int) (t:Th) (u:Bool) (r:List D)
 |term (g:Option Bool) (r:List D)
noncomputable def qC(l:Int)(e:Bool)(aP:Option Th)(fm:Bool)(b:List D):D:=.tuple [.str bw,.int l,.str (cE e),qB aP,dZ fm,.list b]
noncomputable def eI:cR->D
 |.acc g l e aP fm b r=>.tuple [oJ g,.str bw,qC l e aP fm b,.list r]
 |.dr g l t u r=>.tuple [oJ g,.str bE,jr l t u,.list r]
 |.term g r=>.tuple [oJ g,.str kg,.none,.list r]
noncomputable def rM:Option (List D)->D
 |none=>.none
 |some b=>.list b
inductive SF where
 |call (l:Int) (c:eR)
 |acc (l:Int) (e:Bool) (aP:Option Th) (fm:Bool) (b:List D)
 |rN (l:Int) (c:eR) (b o:List D)
 |pS (l:Int) (c:eR) (b:List D) (l':Int) (t:Th) (u:Bool) (o:List D)
 |sel (l:Int) (a:List cR) (o:Option (List D))
 |block (l:Int) (b:List D)
 |dr (l:Int) (t:Th) (u:Bool)
 |abort (l:Int) (ts:List Th)
 |cK (l:Int) (q:Bool) (aP:Option Th) (u:Bool)
 |ret (l:Int)
 |null (l:Int)
noncomputable def cy:SF->D
 |.call l c=>j6 l c
 |.acc l e aP fm b=>qC l e aP fm b
 |.rN l c b o=>.tuple [.str bB,.int l,.list [.tuple [.none,.str s_call,j6 l c,.list b]],.list o]
 |.pS l c b l' t u o=>.tuple [.str bB,.int l,.list [.tuple [.none,.str s_call,j6 l c,.list b],.tuple [.none,.str bE,jr l' t u,.list o]],.none]
 |.sel l a o=>.tuple [.str bB,.int l,.list (a.map eI),rM o]
 |.block l b=>.tuple [.str gk,.int l,.str aI,.list [],.list b,.list []]
 |.dr l t u=>jr l t u
 |.abort l ts=>.tuple [.str d5,.int l,.list (ts.map oH)]
 |.cK l q aP u=>.tuple [.str cz,.int l,Vg q,.str qm,qB aP,.bool u]
 |.ret l=>.tuple [.str mA,.int l,.none]
 |.null l=>.tuple [.str qj,.int l]
noncomputable def gI(t:Th):Prop:=∀j,t=.lit j->0<=j/\j<9
noncomputable def fu(f:Option Th):Prop:=∀t,f=some t->gI t
noncomputable def wk(l:List (Option Th)):Prop:=l.length<=2/\∀a∈l,fu a
structure gq(c:eR):Prop where
 pre:gI c.pre
 aP:fu c.aP
 args:wk c.args
noncomputable def Ln(l:Int):Prop:=0<=l/\l<=100000
noncomputable abbrev LP:=Bool->List D->Prop
noncomputable def wm(L L0:LP)(sv:Bool):cR->Prop
 |.acc _ l _ aP _ b r=>Ln l/\fu aP/\L true b/\L0 sv r
 |.dr _ _ t _ r=>gI t/\L0 sv r
 |.term _ r=>L0 sv r
noncomputable def Pp(L0:LP)(sv:Bool)(o:Option (List D)):Prop:=∀b,o=some b->L0 sv b
noncomputable def Jm(L L0:LP)(sv:Bool):SF->Prop
 |.call l c=>Ln l/\gq c
 |.acc l _ aP _ b=>Ln l/\fu aP/\L true b
 |.rN l c b o=>Ln l/\gq c/\L sv b/\L sv o
 |.pS l c b _ t _ o=>Ln l/\gq c/\L sv b/\gI t/\L0 sv o
 |.sel l a o=>Ln l/\a≠[]/\a.length<=3/\(∀x∈a,wm L L0 sv x)/\Pp L0 sv o
 |.block l b=>Ln l/\L sv b
 |.dr l t _=>Ln l/\gI t
 |.abort l ts=>Ln l/\ts.length<=2/\∀t∈ts,gI t
 |.cK l _ aP _=>sv=true/\Ln l/\fu aP
 |.ret l=>sv=true/\Ln l
 |.null l=>Ln l
noncomputable def WW:LP:=fun _ _=>False
noncomputable def Ny(L L0:LP):LP:=fun sv b=>b.length<=2/\∀x∈b,∃f,Jm L L0 sv f/\x=cy f
noncomputable def Nz:LP:=Ny WW WW
noncomputable def SL:Nat->LP
 |0=>Nz
 |n+1=>Ny (SL n) Nz
theorem mN{α:Type}:∀(l:List α) (i:Nat),aq l i=l[i]?
 |[],_=>rfl
 |_::_,0=>rfl
 |_::l,i+1=>mN l i
noncomputable def MC(R:ak->St->Prop)(Q:KF):KF:=fun fl ê σ=>match fl with
 |.next=>R ê σ
 |.cont=>Q .cont ê σ
 |.ret v=>Q (.ret v) ê σ
noncomputable def wo(R:ak->St->Prop)(Q:KF):KF:=fun fl ê σ=>match fl with
 |.next=>R ê σ
 |.cont=>R ê σ
 |.ret v=>Q (.ret v) ê σ
theorem An{h:Ex}:∀(a b:List T) {ê:ak} {σ:St} {Q:KF},gz h (a++b) ê σ Q=gz h a ê σ (MC (fun ê σ=>gz h b ê σ Q) Q):=by
 intro l0
 induction l0 with
 |nil=>
  intro _ _ _ _;exact rfl
 |cons t a ih=>
  intro b ê σ Q;show h t ê σ _=h t ê σ _
  congr 1
  funext fl d9 aF
  rcases fl with _|_
  ·exact ih b
  ·rfl
  ·rfl
theorem bq{h:Ex}{a b:List T}{ê:ak}{σ:St}{Q:KF}(k:∀R:ak->St->Prop,(∀d9 aF,gz h b d9 aF Q->R d9 aF)->gz h a ê σ (MC R Q)):gz h (a++b) ê σ Q:=by
 rw[An];exact k _ fun _ _ x=>x
theorem wq{h:Ex}{b:List T}{ê:ak}{σ:St}{Q:KF}{R0:ak->St->Prop}(k:∀R:ak->St->Prop,(∀d9 aF,R0 d9 aF->R d9 aF)->gz h b ê σ (wo R Q)):gz h b ê σ (wo R0 Q):=k _ fun _ _ x=>x
theorem Ao{h:Ex}{t:T}{ê:ak}{σ:St}{Q:KF}:gz h [t] ê σ Q=h t ê σ Q:=by
 show h t ê σ _=h t ê σ Q
 congr 1
 funext fl d9 aF
 rcases fl with _|_<;>rfl
theorem Ra{C:Cl}{n:Nat}{so:List Str}{it:E}{b:List T}{ê:ak}{σ:St}{Q:KF}:ex G C (n+1) (.gN so it b) ê σ Q=mq (ev G C n) it ê σ fun xs w ab=>forL (ex G C n) so b w xs ê ab Q:=rfl
theorem K7{f:Ev}{it:E}{ê:ak}{σ:St}{Vh:List D->Option (Nat×List D)->St->Prop}(k:∀F:List D->Option (Nat×List D)->St->Prop,(∀xs w σ,Vh xs w σ->F xs w σ)->mq f it ê σ F):mq f it ê σ Vh:=k _ fun _ _ _ x=>x
theorem js{C:Cl}{so:List Str}{it:E}{b:List T}{ê:ak}{σ:St}{Q:KF}(k:∀F:List D->Option (Nat×List D)->St->Prop,(∀xs w σ,forL (ex G C 59) so b w xs ê σ Q->F xs w σ)->mq (ev G C 59) it ê σ F):gz (ex G C 60) [.gN so it b] ê σ Q:=by
 refine az (Ao) ?_;refine az (Ra) ?_;exact k _ fun _ _ _ x=>x
theorem dm{h:Ex}{so:List Str}{body:List T}{x:D}{xs:List D}{ê:ak}{σ:St}{Q:KF}:
 forL h so body none (x::xs) ê σ Q=bind1 so x ê fun d9=>gz h body d9 σ (wo (fun ê σ=>forL h so body none xs ê σ Q) Q):=rfl
noncomputable def Run(C:Cl)(f:Nat)(vs:List ag)(σ:St)(Q:KV):Prop:=match Nat.beq (P.par f).length vs.length with
 |true=>gz (ex G C 60) (P.code f) ((P.par f).zip vs) σ (fQ Q)
 |false=>False
end
noncomputable def mO(ns:List Int)(sp line left:Int):aL:=.dict [(gR,.d (.list (ns.map .int))),(ql,.d (.int sp)),(ba,.d (.int line)),(eM,.d (.int left))]
noncomputable def dk(ns:List Int)(sp line left:Int)(tl:List (Option aL))(γ:Nat)(τ:List aL):St:=⟨some (mO ns sp line left)::tl,τ,γ⟩
noncomputable def lC(C:Cl):Prop:=∀(ns:List Int) (n:Nat) (sp line left:Int) (tl:List (Option aL)) (γ:Nat) (many:Int) (Q:KV),0<many->sp+1=(n:Int)->n<=100000->ns.length<=70->
 (∀p:Int,0<=p->p<many->Q (.d (.int p)) (dk ns (Int.ofNat n) line left tl γ []))->C aT [.b 0,.d (.int many)] (dk ns sp line left tl γ []) Q
theorem Rb{C:Cl}:lC (Run C):=by
 intro ns n sp line left tl γ many Q hm oK hn hl k;have e:sp+Int.ofNat 1=Int.ofNat n:=oK;have kk:∀x:Int,Q (.d (.int (Int.fmod x many))) (dk ns (Int.ofNat n) line left tl γ []):=fun x=>k _ (Int.fmod_nonneg_of_pos _ hm) (Int.fmod_lt_of_pos _ hm);refine And.intro (by simp) ?_;refine az (e) ?_;refine aj (by rw[List.length_map];unfold ah;omega) ?_
 conv=>whnf
 split
 ·rename_i h;have pY:n<ns.length:=by
   have:=of_decide_eq_true h;rw[List.length_map]at this;have this:(n:Int)<(ns.length:Int):=this;omega
  conv=>whnf
  have hx:idx (ns.map PyData.int) (Int.ofNat n)=some (.int ns[n]):=(mN _ _).trans (by simp[pY]);refine az (hx) ?_;refine aj (by unfold ah;omega) ?_;refine⟨hm,?_⟩;exact kk _
 ·conv=>whnf
  refine⟨⟨?_,by decide⟩,?_⟩
  ·show n<=ah;unfold ah;omega
  refine⟨⟨by decide,?_,by decide⟩,?_⟩
  ·show(Int.ofNat n*Int.ofNat 5).natAbs<=ah;have:Int.ofNat n*Int.ofNat 5=((n*5:Nat):Int):=rfl;rw[this];unfold ah;omega
  refine⟨hm,?_⟩;exact kk _
noncomputable def me(C:Cl):Prop:=∀(ns:List Int) (n:Nat) (sp line left:Int) (tl:List (Option aL)) (γ:Nat) (Q:KV),sp+1=(n:Int)->n<=99990->ns.length<=70->
 (∀t:Th,gI t->Q (.d (oH t)) (dk ns (Int.ofNat (n+1)) line left tl γ []))->C fq [.b 0] (dk ns sp line left tl γ []) Q
theorem two{p:Int}(h0:0<=p)(h:p<2):p=Int.ofNat 0\/p=Int.ofNat 1:=by
 have:p=0\/p=1:=by omega
 exact this
theorem three{p:Int}(h0:0<=p)(h:p<3):p=Int.ofNat 0\/p=Int.ofNat 1\/p=Int.ofNat 2:=by
 have:p=0\/p=1\/p=2:=by omega
 exact this
theorem NB{C:Cl}(hp:lC C):me (Run C):=by
 intro ns n sp line left tl γ Q oK hn hl k;refine hp ns n sp line left tl γ (Int.ofNat 9) _ (by decide) oK (by omega) hl fun p h0 h9=>?_;refine hp ns (n+1) (Int.ofNat n) line left tl γ (Int.ofNat 2) _ (by decide) rfl (ai hn) hl fun p' Rc yA=>?_;rcases two Rc yA with rfl|rfl
 ·conv=>whnf
  exact k .obj (fun j e=>by rcases e with _|_)
 ·conv=>whnf
  exact k (.lit p) (fun j e=>by rcases e with _|_;exact⟨h0,h9⟩)
noncomputable def Fe(C:Cl):Prop:=∀(ns:List Int) (n:Nat) (sp line left:Int) (tl:List (Option aL)) (γ:Nat) (Q:KV),sp+1=(n:Int)->n<=99980->ns.length<=70->
 (∀f:Option Th,fu f->Q (.d (qB f)) (dk ns (Int.ofNat (n+2)) line left tl γ []))->C kU [.b 0] (dk ns sp line left tl γ []) Q
theorem Vi{C:Cl}(hp:lC C)(ht:me C):Fe (Run C):=by
 intro ns n sp line left tl γ Q oK hn hl k;refine ht ns n sp line left tl γ _ oK (by omega) hl fun t ho=>?_;refine hp ns (n+2) (Int.ofNat (n+1)) line left tl γ (Int.ofNat 2) _ (by decide) rfl (ai hn) hl fun p' Rc yA=>?_;rcases two Rc yA with rfl|rfl
 ·conv=>whnf
  exact k none (fun j e=>by rcases e with _|_)
 ·conv=>whnf
  exact k (some t) (fun j e=>by rcases e with _|_;exact ho)
noncomputable def wt(C:Cl):Prop:=∀(ns:List Int) (n:Nat) (sp line left:Int) (tl:List (Option aL)) (γ:Nat) (Q:KV),sp+1=(n:Int)->n<=99980->ns.length<=70->
 (∀g:Option Bool,Q (.d (oJ g)) (dk ns (Int.ofNat n) line left tl γ []))->C lQ [.b 0] (dk ns sp line left tl γ []) Q
theorem NC{C:Cl}(hp:lC C):wt (Run C):=by
 intro ns n sp line left tl γ Q oK hn hl k;refine hp ns n sp line left tl γ (Int.ofNat 3) _ (by decide) oK (by omega) hl fun p' Rc yA=>?_;rcases three Rc yA with rfl|rfl|rfl
 ·conv=>whnf
  exact k none
 ·conv=>whnf
  exact k (some false)
 ·conv=>whnf
  exact k (some true)
theorem oM{e:Int}(h0:0<=e)(h:e<2):∃b,WB++(PyData.int e).shown=cE b:=by
 rcases two h0 h with rfl|rfl
 ·exact⟨false,by decide+kernel⟩
 ·exact⟨true,by decide+kernel⟩
theorem lT{e:Int}(h0:0<=e)(h:e<2):WB.length+(PyData.int e).shown.length<=ah:=by
 rcases two h0 h with rfl|rfl<;>decide+kernel
noncomputable def Gy(C:Cl):Prop:=∀(ns:List Int) (n:Nat) (sp line left:Int) (tl:List (Option aL)) (γ:Nat) (l:Int) (Q:KV),sp+1=(n:Int)->n<=99900->ns.length<=70->
 (∀(c:eR) (n':Nat) (ij:Int),gq c->ij+1=(n':Int)->n'<=n+20->Q (.d (j6 l c)) (dk ns ij line left tl γ []))->C qq [.b 0,.d (.int l)] (dk ns sp line left tl γ []) Q
theorem Vj:wk []:=⟨by decide,fun a h=>by rcases h with _|_⟩
theorem Pq{a:Option Th}(h:fu a):wk [a]:=⟨by simp,fun x hx=>by rw[List.mem_singleton]at hx;exact hx▸h⟩
theorem Gz{a b:Option Th}(h:fu a)(h':fu b):wk [a,b]:=⟨by simp,fun x hx=>by
 rw[List.mem_cons,List.mem_singleton]at hx;rcases hx with rfl|rfl<;>assumption⟩
theorem rO:fu none:=fun t e=>by rcases e with _|_
theorem rP{t:Th}(h:gI t):fu (some t):=fun _ e=>by rcases e with _|_;exact h
theorem Rd{C:Cl}(hp:lC C)(ht:me C)(hf:Fe C):Gy (Run C):=by
 intro ns n sp line left tl γ l Q oK hn hl k;refine hp ns n sp line left tl γ (Int.ofNat 3) _ (by decide) oK (by omega) hl fun p Rc yA=>?_;rcases three Rc yA with rfl|rfl|rfl
 ·skip
  refine ht ns (n+1) (Int.ofNat n) line left tl γ _ rfl (ai hn) hl fun pre po=>?_;refine hp ns (n+3) (Int.ofNat (n+2)) line left tl γ (Int.ofNat 2) _ (by decide) rfl (ai hn) hl fun e uI mY=>?_;replace mY:e<2:=mY;refine⟨by unfold ah;omega,?_⟩;refine⟨lT uI mY,?_⟩;obtain⟨eb,hb⟩:=oM uI mY;refine az (hb) ?_;refine hf ns (n+4) (Int.ofNat (n+3)) line left tl γ _ rfl (ai hn) hl fun f fo=>?_;exact k ⟨pre,eb,f,[]⟩ (n+7) (Int.ofNat (n+6)) ⟨po,fo,Vj⟩ rfl (by omega)
 ·skip
  refine ht ns (n+1) (Int.ofNat n) line left tl γ _ rfl (ai hn) hl fun t o=>?_;refine hp ns (n+3) (Int.ofNat (n+2)) line left tl γ (Int.ofNat 2) _ (by decide) rfl (ai hn) hl fun q h0 h2=>?_;rcases two h0 h2 with rfl|rfl
  ·skip
   refine ht ns (n+4) (Int.ofNat (n+3)) line left tl γ _ rfl (ai hn) hl fun pre po=>?_;refine hp ns (n+6) (Int.ofNat (n+5)) line left tl γ (Int.ofNat 2) _ (by decide) rfl (ai hn) hl fun e uI mY=>?_;replace mY:e<2:=mY;refine⟨by unfold ah;omega,?_⟩;refine⟨lT uI mY,?_⟩;obtain⟨eb,hb⟩:=oM uI mY;refine az (hb) ?_;refine hf ns (n+7) (Int.ofNat (n+6)) line left tl γ _ rfl (ai hn) hl fun f fo=>?_;exact k ⟨pre,eb,f,[some t]⟩ (n+10) (Int.ofNat (n+9)) ⟨po,fo,Pq (rP o)⟩ rfl (by omega)
  ·skip
   refine ht ns (n+4) (Int.ofNat (n+3)) line left tl γ _ rfl (ai hn) hl fun pre po=>?_;refine hp ns (n+6) (Int.ofNat (n+5)) line left tl γ (Int.ofNat 2) _ (by decide) rfl (ai hn) hl fun e uI mY=>?_;replace mY:e<2:=mY;refine⟨by unfold ah;omega,?_⟩;refine⟨lT uI mY,?_⟩;obtain⟨eb,hb⟩:=oM uI mY;refine az (hb) ?_;refine hf ns (n+7) (Int.ofNat (n+6)) line left tl γ _ rfl (ai hn) hl fun f fo=>?_;exact k ⟨pre,eb,f,[none]⟩ (n+10) (Int.ofNat (n+9)) ⟨po,fo,Pq rO⟩ rfl (by omega)
 ·skip
  refine ht ns (n+1) (Int.ofNat n) line left tl γ _ rfl (ai hn) hl fun t o=>?_;refine hp ns (n+3) (Int.ofNat (n+2)) line left tl γ (Int.ofNat 2) _ (by decide) rfl (ai hn) hl fun q h0 h2=>?_;rcases two h0 h2 with rfl|rfl
  ·skip
   refine ht ns (n+4) (Int.ofNat (n+3)) line left tl γ _ rfl (ai hn) hl fun u uo=>?_;refine hp ns (n+6) (Int.ofNat (n+5)) line left tl γ (Int.ofNat 2) _ (by decide) rfl (ai hn) hl fun q h0 h2=>?_;rcases two h0 h2 with rfl|rfl
   ·skip
    refine ht ns (n+7) (Int.ofNat (n+6)) line left tl γ _ rfl (ai hn) hl fun pre po=>?_;refine hp ns (n+9) (Int.ofNat (n+8)) line left tl γ (Int.ofNat 2) _ (by decide) rfl (ai hn) hl fun e uI mY=>?_;replace mY:e<2:=mY;refine⟨by unfold ah;omega,?_⟩;refine⟨lT uI mY,?_⟩;obtain⟨eb,hb⟩:=oM uI mY;refine az (hb) ?_;refine hf ns (n+10) (Int.ofNat (n+9)) line left tl γ _ rfl (ai hn) hl fun f fo=>?_;exact k ⟨pre,eb,f,[some t,some u]⟩ (n+13) (Int.ofNat (n+12)) ⟨po,fo,Gz (rP o) (rP uo)⟩ rfl (by omega)
   ·skip
    refine ht ns (n+7) (Int.ofNat (n+6)) line left tl γ _ rfl (ai hn) hl fun pre po=>?_;refine hp ns (n+9) (Int.ofNat (n+8)) line left tl γ (Int.ofNat 2) _ (by decide) rfl (ai hn) hl fun e uI mY=>?_;replace mY:e<2:=mY;refine⟨by unfold ah;omega,?_⟩;refine⟨lT uI mY,?_⟩;obtain⟨eb,hb⟩:=oM uI mY;refine az (hb) ?_;refine hf ns (n+10) (Int.ofNat (n+9)) line left tl γ _ rfl (ai hn) hl fun f fo=>?_;exact k ⟨pre,eb,f,[some t,none]⟩ (n+13) (Int.ofNat (n+12)) ⟨po,fo,Gz (rP o) (rO)⟩ rfl (by omega)
  ·skip
   refine ht ns (n+4) (Int.ofNat (n+3)) line left tl γ _ rfl (by omega) hl fun u uo=>?_;refine hp ns (n+6) (Int.ofNat (n+5)) line left tl γ (Int.ofNat 2) _ (by decide) rfl (by omega) hl fun q h0 h2=>?_;rcases two h0 h2 with rfl|rfl
   ·skip
    refine ht ns (n+7) (Int.ofNat (n+6)) line left tl γ _ rfl (ai hn) hl fun pre po=>?_;refine hp ns (n+9) (Int.ofNat (n+8)) line left tl γ (Int.ofNat 2) _ (by decide) rfl (ai hn) hl fun e uI mY=>?_;replace mY:e<2:=mY;refine⟨by unfold ah;omega,?_⟩;refine⟨lT uI mY,?_⟩;obtain⟨eb,hb⟩:=oM uI mY;refine az (hb) ?_;refine hf ns (n+10) (Int.ofNat (n+9)) line left tl γ _ rfl (ai hn) hl fun f fo=>?_;exact k ⟨pre,eb,f,[none,some u]⟩ (n+13) (Int.ofNat (n+12)) ⟨po,fo,Gz (rO) (rP uo)⟩ rfl (by omega)
   ·skip
    refine ht ns (n+7) (Int.ofNat (n+6)) line left tl γ _ rfl (by omega) hl fun pre po=>?_;refine hp ns (n+9) (Int.ofNat (n+8)) line left tl γ (Int.ofNat 2) _ (by decide) rfl (by omega) hl fun e uI mY=>?_;replace mY:e<2:=mY;refine⟨by unfold ah;omega,?_⟩;refine⟨lT uI mY,?_⟩;obtain⟨eb,hb⟩:=oM uI mY;refine az (hb) ?_;refine hf ns (n+10) (Int.ofNat (n+9)) line left tl γ _ rfl (by omega) hl fun f fo=>?_;exact k ⟨pre,eb,f,[none,none]⟩ (n+13) (Int.ofNat (n+12)) ⟨po,fo,Gz (rO) (rO)⟩ rfl (by omega)
noncomputable def oN(L:LP)(S:Nat)(z:Int)(C:Cl):Prop:=∀(ns:List Int) (n:Nat) (sp line left:Int) (tl:List (Option aL)) (γ:Nat) (sv:Bool) (Q:KV),sp+1=(n:Int)->n+S<=80000->ns.length<=70->0<=line->line+S<=90000->
 (∀(b:List D) (n':Nat) (ij aY bU:Int) (τ:List aL),L sv b->ij+1=(n':Int)->n'<=n+S->line<=aY->aY<=line+S->Q (.d (.list b)) (dk ns ij aY bU tl γ τ))->C dM [.b 0,.d (.int z),.d (.bool sv)] (dk ns sp line left tl γ []) Q
noncomputable def pA(L:LP)(S:Nat)(z:Int)(C:Cl):Prop:=∀(ns:List Int) (n:Nat) (sp line left l:Int) (tl:List (Option aL)) (γ:Nat) (Q:KV),sp+1=(n:Int)->n+S+10<=80000->ns.length<=70->0<=line->line+S<=90000->
 (∀(e:Bool) (aP:Option Th) (fm:Bool) (b:List D) (n':Nat) (ij aY bU:Int),fu aP->L true b->ij+1=(n':Int)->n'<=n+S+10->line<=aY->aY<=line+S->Q (.d (qC l e aP fm b)) (dk ns ij aY bU tl γ []))->C kW [.b 0,.d (.int l),.d (.int z)] (dk ns sp line left tl γ []) Q
theorem K8{C:Cl}{L:LP}{S:Nat}{z:Int}(hp:lC C)(hf:Fe C)(hs:oN L S (z-1) C):pA L S z (Run C):=by
 intro ns n sp line left l tl γ Q oK hn hl h0 hS k;refine hp ns n sp line left tl γ (Int.ofNat 2) _ (by decide) oK (ai hn) hl fun e uI mY=>?_;replace mY:e<2:=mY;refine⟨by unfold ah;omega,?_⟩;refine⟨lT uI mY,?_⟩;obtain⟨eb,hb⟩:=oM uI mY;refine az (hb) ?_;refine hf ns (n+1) (Int.ofNat n) line left tl γ _ rfl (ai hn) hl fun f fo=>?_;refine hp ns (n+4) (Int.ofNat (n+3)) line left tl γ (Int.ofNat 2) _ (by decide) rfl (ai hn) hl fun m h0m h2m=>?_;rcases two h0m h2m with rfl|rfl
 ·conv=>whnf
  refine⟨by decide,?_⟩;refine⟨by decide,?_⟩;refine hs ns (n+5) (Int.ofNat (n+4)) line left tl γ true _ rfl (ai hn) hl h0 hS fun b n' ij aY bU τ hb pM hle h1 h2=>?_;exact k eb f false b n' ij aY bU fo hb pM (ai hle) h1 h2
 ·conv=>whnf
  refine⟨by decide,?_⟩;refine⟨by decide,?_⟩;refine hs ns (n+5) (Int.ofNat (n+4)) line left tl γ true _ rfl (ai hn) hl h0 hS fun b n' ij aY bU τ hb pM hle h1 h2=>?_;exact k eb f true b n' ij aY bU fo hb pM (ai hle) h1 h2
noncomputable def Rf(L L0:LP)(S:Nat)(z:Int)(C:Cl):Prop:=∀(ns:List Int) (n:Nat) (sp line left l:Int) (tl:List (Option aL)) (γ:Nat) (sv:Bool) (Q:KV),sp+1=(n:Int)->n+3*S+120<=80000->ns.length<=70->0<=line->line+3*S+40<=90000->Ln l->
 (∀(f:SF) (n':Nat) (ij aY bU:Int) (τ:List aL),Jm L L0 sv f->ij+1=(n':Int)->n'<=n+3*S+120->line<=aY->aY<=line+3*S+40->Q (.d (cy f)) (dk ns ij aY bU tl γ τ))->C jj [.b 0,.d (.int l),.d (.int z),.d (.bool sv)] (dk ns sp line left tl γ []) Q
noncomputable def qD(l z:Int)(sv:Bool)(rest:ak):ak:=(ay,.b 0)::(ba,.d (.int l))::(dW,.d (.int z))::(bg,.d (.bool sv))::(cf,.t 0)::rest
noncomputable def uJ(rest:ak):Prop:=rest=[]\/∃a b c,rest=[(df,.d a),(cJ,.d b),(bI,.d c)]
noncomputable def pB:List T:=[.asg (.x cJ) (.sub (.lst .fz [(.c (.str bw)),(.c (.str bw)),(.c (.str bE)),(.c (.str kg))]) (.call aT [(.var ay),(.c (.int (.ofNat 4)))])),.asg (.x bI) (.c .none),.fL (.cmp .eq (.var cJ) (.c (.str bw))) [.asg (.x bI) (.call kW [(.var ay),(.var ba),(.var dW)])] [.fL (.cmp .eq (.var cJ) (.c (.str bE))) [.asg (.x bI) (.tup [(.c (.str bE)),(.var ba),(.call fq [(.var ay)]),(.cmp .eq (.call aT [(.var ay),(.c (.int (.ofNat 2)))]) (.c (.int (.ofNat 1))))])] []],.expr (.append (.var cf) (.tup [(.call lQ [(.var ay)]),(.var cJ),(.var bI),(.call dM [(.var ay),(.c (.int (.ofNat 0))),(.var bg)])]))]
theorem four{p:Int}(h0:0<=p)(h:p<4):p=Int.ofNat 0\/p=Int.ofNat 1\/p=Int.ofNat 2\/p=Int.ofNat 3:=by
 have:p=0\/p=1\/p=2\/p=3:=by omega
 exact this
theorem K9{C:Cl}{L L0:LP}{S:Nat}{z:Int}(hp:lC C)(ht:me C)(hg:wt C)(ha:pA L S z C)(Rg:oN L0 10 0 C)
  {ns:List Int} {n:Nat} {sp line left l:Int} {tl:List (Option aL)} {γ:Nat} {sv:Bool} {rest:ak} {r:List D} {x:D} {R:ak->St->Prop} {Q:KF} (hr:uJ rest) (xA:r.length<=100)
  (oK:sp+1=(n:Int)) (hn:n+S+25<=80000) (hl:ns.length<=70) (h0:0<=line) (hS:line+S+10<=90000) (pC:Ln l)
  (k:∀(a:cR) (n':Nat) (ij aY bU:Int) (aG:ak),wm L L0 sv a->uJ aG->ij+1=(n':Int)->n'<=n+S+25->line<=aY->aY<=line+S+10->R (qD l z sv aG) (dk ns ij aY bU tl γ [.list [] (eI a::r)])):
  gz (ex G C 59) pB (i9 df (.d x) (qD l z sv rest)) (dk ns sp line left tl γ [.list [] r]) (wo R Q):=by
 have fin:∀(kind data:D) (m:Nat) (Ap p9 yK:Int),(Ap+1=(m:Int))->m<=n+S+12->line<=p9->p9<=line+S->(∀g b,L0 sv b->∃a,wm L L0 sv a/\eI a=.tuple [oJ g,kind,data,.list b])->
   gz (ex G C 59) [.expr (.append (.var cf) (.tup [(.call lQ [(.var ay)]),(.var cJ),(.var bI),(.call dM [(.var ay),(.c (.int (.ofNat 0))),(.var bg)])]))]
    (qD l z sv [(df,.d x),(cJ,.d kind),(bI,.d data)]) (dk ns Ap p9 yK tl γ [.list [] r]) (wo R Q):=by
  intro kind data m Ap p9 yK YY hm yL DD hk;refine hg ns m Ap p9 yK tl γ _ YY (aZ hn hm) hl fun g=>?_;refine Rg ns (m+1) (Int.ofNat m) p9 yK tl γ sv _ rfl (aZ hn hm) hl (y4 h0 yL) (y4 hS DD) fun b n' ij aY bU τ hb pM hle h1 h2=>?_;refine⟨by show 0+r.length<ah;unfold ah;exact ai xA,?_⟩;refine bc fun bf=>?_;obtain⟨a,ao,ae⟩:=hk g b hb;refine bf ?_;have:=k a n' ij aY bU [(df,.d x),(cJ,.d kind),(bI,.d data)] ao (.inr ⟨_,_,_,rfl⟩) pM (aZ hm hle) (y4 yL h1) (y4 DD h2);rw[ae]at this;exact this
 have pre:∀R':ak->St->Prop,(∀(kind data:D) (m:Nat) (Ap p9 yK:Int),(Ap+1=(m:Int))->m<=n+S+12->line<=p9->p9<=line+S->(∀g b,L0 sv b->∃a,wm L L0 sv a/\eI a=.tuple [oJ g,kind,data,.list b])->
   R' (qD l z sv [(df,.d x),(cJ,.d kind),(bI,.d data)]) (dk ns Ap p9 yK tl γ [.list [] r]))->
   gz (ex G C 59) (pB.take 3) (i9 df (.d x) (qD l z sv rest)) (dk ns sp line left tl γ [.list [] r]) (MC R' (wo R Q)):=by
  intro R' kk;rcases hr with rfl|⟨a0,b0,c0,rfl⟩
  all_goals
   refine hp ns n sp line left tl γ (Int.ofNat 4) _ (by decide) oK (ai hn) hl fun p ND h4p=>?_;rcases four ND h4p with rfl|rfl|rfl|rfl
   ·conv=>whnf
    refine ha ns (n+1) (Int.ofNat n) line left l tl γ _ rfl (ai hn) hl h0 (xr hS) fun e aP fm b n' ij aY bU fo hb pM hle h1 h2=>?_;exact kk (.str bw) (qC l e aP fm b) n' ij aY bU pM (ai hle) (by omega) (by omega) fun g r hr=>⟨.acc g l e aP fm b r,⟨pC,fo,hb,hr⟩,rfl⟩
   ·conv=>whnf
    refine ha ns (n+1) (Int.ofNat n) line left l tl γ _ rfl (ai hn) hl h0 (xr hS) fun e aP fm b n' ij aY bU fo hb pM hle h1 h2=>?_;exact kk (.str bw) (qC l e aP fm b) n' ij aY bU pM (ai hle) (by omega) (by omega) fun g r hr=>⟨.acc g l e aP fm b r,⟨pC,fo,hb,hr⟩,rfl⟩
   ·conv=>whnf
    refine ht ns (n+1) (Int.ofNat n) line left tl γ _ rfl (ai hn) hl fun t to=>?_;refine hp ns (n+3) (Int.ofNat (n+2)) line left tl γ (Int.ofNat 2) _ (by decide) rfl (ai hn) hl fun u NF NG=>?_;exact kk (.str bE) (jr l t (decide (u=Int.ofNat 1))) (n+4) (Int.ofNat (n+3)) line left rfl (by omega) (by omega) (xr (DK (S))) fun g r hr=>⟨.dr g l t (decide (u=Int.ofNat 1)) r,⟨to,hr⟩,rfl⟩
   ·exact kk (.str kg) .none (n+1) (Int.ofNat n) line left rfl (by omega) (by omega) (xr (DK (S))) fun g r hr=>⟨.term g r,hr,rfl⟩
 rw[show pB=pB.take 3++pB.drop 3 from rfl,An];exact pre _ fin
theorem La{C:Cl}{L L0:LP}{S:Nat}{z:Int}(hp:lC C)(ht:me C)(hg:wt C)(ha:pA L S z C)(Rg:oN L0 10 0 C)
  {ns:List Int} {l:Int} {tl:List (Option aL)} {γ:Nat} {sv:Bool} {Q:KF} (hl:ns.length<=70) (pC:Ln l):∀(xs:List D) (n:Nat) (sp line left:Int) (rest:ak) (acc:List cR),
  uJ rest->acc.length+xs.length<=3->(∀a∈acc,wm L L0 sv a)->sp+1=(n:Int)->n+xs.length*(S+25)<=80000->0<=line->line+xs.length*((S:Int)+10)<=90000->
  (∀(wu:List cR) (n':Nat) (ij aY bU:Int) (aG:ak),wu.length=acc.length+xs.length->(∀a∈wu,wm L L0 sv a)->uJ aG->ij+1=(n':Int)->n'<=n+xs.length*(S+25)->line<=aY->aY<=line+xs.length*((S:Int)+10)->Q .next (qD l z sv aG) (dk ns ij aY bU tl γ [.list [] (wu.map eI)]))->
  forL (ex G C 59) [df] pB none xs (qD l z sv rest) (dk ns sp line left tl γ [.list [] (acc.map eI)]) Q:=by
 intro l0
 induction l0 with
 |nil=>
  intro n sp line left rest acc hr h3 wh oK hn h0 hS k;exact k acc n sp line left rest rfl wh hr oK (by omega) (by omega) (by simp only[List.length_nil,Int.natCast_zero,Int.zero_mul];omega)
 |cons x xs ih=>
  intro n sp line left rest acc hr h3 wh oK hn h0 hS k;rw[List.length_cons]at h3;have e1:(x::xs).length*(S+25)=xs.length*(S+25)+(S+25):=Nat.succ_mul _ _;have e2:(((x::xs).length:Nat):Int)*((S:Int)+10)=(xs.length:Int)*((S:Int)+10)+((S:Int)+10):=by
   rw[List.length_cons,Int.natCast_succ,Int.add_mul,Int.one_mul]
  have p1:0<=(xs.length:Int)*((S:Int)+10):=Int.mul_nonneg (xr (DK (xs.length))) (xr (DK (S)));rw[e1]at hn k;rw[e2]at hS k;refine az (dm) ?_;refine K9 hp ht hg ha Rg hr (by rw[List.length_map];exact ai h3) oK (ai hn) hl h0 (y4 hS p1) pC fun a n' ij aY bU aG ao jc Rh pM yL DD=>?_;refine ih n' ij aY bU aG (a::acc) jc (by rw[List.length_cons];exact ai h3) (fun b hb=>?_) Rh (aZ hn pM) (y4 h0 yL) (y4 hS DD) fun wu n2 GA iI jt gV q1 q2 q3 q4 q5 q6 q7=>?_
  ·rcases List.mem_cons.mp hb with rfl|hb
   ·exact ao
   ·exact wh b hb
  ·exact k wu n2 GA iI jt gV (by rw[q1,List.length_cons,List.length_cons];omega) q2 q3 q4 (aZ pM q5) (y4 yL q6) (y4 DD q7)
theorem Vk{C:Cl}{L L0:LP}{S:Nat}{z:Int}(acq:10<=S)(hp:lC C)(ht:me C)(hg:wt C)(hc:Gy C)(ha:pA L S z C)(hs:oN L S (z-1) C)(Rg:oN L0 10 0 C):Rf L L0 S z (Run C):=by
 intro ns n sp line left l tl γ sv Q oK hn hl h0 hS pC k;have rest:(fun ê σ=>gz (ex G C 60) ((P.code jj).drop 1) ê σ (fQ Q)) [(ay,.b 0),(ba,.d (.int l)),(dW,.d (.int z)),(bg,.d (.bool sv))] (dk ns (Int.ofNat n) line left tl γ []):=by
  refine hp ns (n+1) (Int.ofNat n) line left tl γ (Int.ofNat 3) _ (by decide) rfl (ai hn) hl fun q h0q h3q=>?_;obtain⟨q,rfl⟩:=Int.eq_ofNat_of_zero_le h0q;have YZ:q<3:=by have:(q:Int)<3:=h3q;omega
  have hq:1+q<=3:=by exact ai YZ
  refine aj (by unfold ah;omega) ?_;have xA:(eL (1+q)).length=1+q:=by unfold eL;rw[List.length_map,List.length_range]
  have b1:(eL (1+q)).length*(S+25)<=3*(S+25):=Nat.mul_le_mul_right _ (aZ hq (il xA));have b2:((eL (1+q)).length:Int)*((S:Int)+10)<=3*((S:Int)+10):=Int.mul_le_mul_of_nonneg_right (by omega) (xr (DK (S)));refine La hp ht hg ha Rg hl pC (eL (1+q)) (n+2) (Int.ofNat (n+1)) line left [] [] (.inl rfl) (by rw[xA];simp only[List.length_nil];exact ai YZ) (fun a ha=>by rcases ha with _|_) rfl (aZ hn b1) h0 (y4 hS b2) fun acc n' ij aY bU aG q1 q2 q3 q4 q5 q6 q7=>?_;have qI:acc.reverse≠[]:=by
   intro e;have z1:=congrArg List.length e;rw[List.length_reverse,q1,xA]at z1;have z2:0+(1+q)=0:=z1;omega
  have hle:acc.reverse.length<=3:=by
   refine az (List.length_reverse) ?_;refine az (q1) ?_;refine az (xA) ?_;show 0+(1+q)<=3;exact ai YZ
  have Y0:∀a∈acc.reverse,wm L L0 sv a:=fun a h=>q2 a (List.mem_reverse.mp h);rw[xA]at q1;have fin:∀(o:Option (List D)) (n2:Nat) (GA iI jt:Int) (τ:List aL),Pp L0 sv o->GA+1=(n2:Int)->n2<=n'+20->aY<=iI->iI<=aY+10->
    Q (.d (.tuple [.str bB,.int l,.list (acc.map eI).reverse,rM o])) (dk ns GA iI jt tl γ τ):=by
   intro o n2 GA iI jt τ oo w1 w2 w3 w4;have:=k (.sel l acc.reverse o) n2 GA iI jt τ ⟨pC,qI,hle,Y0,oo⟩ w1 (jG b1 q5 w2) (by omega) (Wu b2 q7 w4);rw[show cy (.sel l acc.reverse o)=.tuple [.str bB,.int l,.list (acc.reverse.map eI),rM o]from rfl,List.map_reverse]at this;exact this
  rcases q3 with rfl|⟨a0,b0,c0,rfl⟩
  all_goals
   refine Rg ns n' ij aY bU tl γ sv _ q4 (jG hn b1 q5) hl (by omega) (Wu hS b2 q7) fun b n2 GA iI jt τ hb w1 w2 w3 w4=>?_;refine hp ns n2 GA iI jt tl γ (Int.ofNat 2) _ (by decide) w1 (uB hn b1 q5 w2) hl fun u NF NG=>?_;rcases two NF NG with rfl|rfl
   ·conv=>whnf
    exact fin none (n2+1) (Int.ofNat n2) iI jt _ (fun b e=>by rcases e with _|_) rfl (ai w2) (by omega) (xr w4)
   ·conv=>whnf
    exact fin (some b) (n2+1) (Int.ofNat n2) iI jt _ (fun b e=>by rcases e with _|_;exact hb) rfl (ai w2) (by omega) (xr w4)
 show gz (ex G C 60) ((P.code jj).take 1++(P.code jj).drop 1) [(ay,.b 0),(ba,.d (.int l)),(dW,.d (.int z)),(bg,.d (.bool sv))] (dk ns sp line left tl γ []) (fQ Q);refine bq fun R hR=>?_;refine hp ns n sp line left tl γ (Int.ofNat 3) _ (by decide) oK (ai hn) hl fun p ND Y1=>?_;rcases three ND Y1 with rfl|rfl|rfl
 ·conv=>whnf
  refine hc ns (n+1) (Int.ofNat n) line left tl γ l _ rfl (ai hn) hl fun c n1 Ap co w1 w2=>?_;refine hs ns n1 Ap line left tl γ sv _ w1 (aZ hn w2) hl h0 (by omega) fun b n2 GA iI jt τ hb v1 v2 v3 v4=>?_;refine hp ns n2 GA iI jt tl γ (Int.ofNat 2) _ (by decide) v1 (jG hn w2 v2) hl fun u NF NG=>?_;rcases two NF NG with rfl|rfl
  ·conv=>whnf
   refine hs ns (n2+1) (Int.ofNat n2) iI jt tl γ sv _ rfl (jG hn w2 v2) hl (by omega) (Wu hS v4 (DK (S))) fun o n3 Y2 Lb Lc τ ho x1 x2 x3 x4=>?_;exact k (.rN l c b o) n3 Y2 Lb Lc _ ⟨pC,co,hb,ho⟩ x1 (jG w2 v2 x2) (by omega) (Wu v4 x4 (DK (S)))
  ·conv=>whnf
   refine ht ns (n2+1) (Int.ofNat n2) iI jt tl γ _ rfl (jG hn w2 v2) hl fun t to=>?_;refine hp ns (n2+3) (Int.ofNat (n2+2)) iI jt tl γ (Int.ofNat 2) _ (by decide) rfl (jG hn w2 v2) hl fun e uI mY=>?_;refine Rg ns (n2+4) (Int.ofNat (n2+3)) iI jt tl γ sv _ rfl (jG hn w2 v2) hl (by omega) (by omega) fun o n3 Y2 Lb Lc τ ho x1 x2 x3 x4=>?_;exact k (.pS l c b l t (decide (e=Int.ofNat 1)) o) n3 Y2 Lb Lc _ ⟨pC,co,hb,to,ho⟩ x1 (jG w2 v2 x2) (by omega) (by omega)
 ·conv=>whnf
  exact hR _ _ rest
 ·conv=>whnf
  exact hR _ _ rest
noncomputable def NH(L L0:LP)(S:Nat)(z:Int)(C:Cl):Prop:=∀(ns:List Int) (n:Nat) (sp line left l:Int) (tl:List (Option aL)) (γ:Nat) (sv:Bool) (Q:KV),sp+1=(n:Int)->n+3*S+122<=80000->ns.length<=70->0<=line->line+3*S+40<=90000->Ln l->
 (∀(f:SF) (n':Nat) (ij aY bU:Int) (τ:List aL),Jm L L0 sv f->ij+1=(n':Int)->n'<=n+3*S+122->line<=aY->aY<=line+3*S+40->Q (.d (cy f)) (dk ns ij aY bU tl γ τ))->C gD [.b 0,.d (.int l),.d (.int z),.d (.bool sv)] (dk ns sp line left tl γ []) Q
noncomputable def GB(L L0:LP)(z:Int)(C:Cl):Prop:=∀(ns:List Int) (n:Nat) (sp line left l:Int) (tl:List (Option aL)) (γ:Nat) (sv:Bool) (Q:KV),sp+1=(n:Int)->n+10<=80000->ns.length<=70->Ln l->
 (∀(f:SF) (n':Nat) (ij:Int) (τ:List aL),Jm L L0 sv f->ij+1=(n':Int)->n'<=n+9->Q (.d (cy f)) (dk ns ij line left tl γ τ))->C gD [.b 0,.d (.int l),.d (.int z),.d (.bool sv)] (dk ns sp line left tl γ []) Q
theorem Y3{p:Int}(h0:0<=p)(h:p<5):p=Int.ofNat 0\/p=Int.ofNat 1\/p=Int.ofNat 2\/p=Int.ofNat 3\/p=Int.ofNat 4:=by
 have:p=0\/p=1\/p=2\/p=3\/p=4:=by omega
 exact this
theorem nine{p:Int}(h0:0<=p)(h:p<9):p=Int.ofNat 0\/p=Int.ofNat 1\/p=Int.ofNat 2\/p=Int.ofNat 3\/p=Int.ofNat 4\/p=Int.ofNat 5\/p=Int.ofNat 6\/p=Int.ofNat 7\/p=Int.ofNat 8:=by
 have:p=0\/p=1\/p=2\/p=3\/p=4\/p=5\/p=6\/p=7\/p=8:=by omega
 exact this
theorem Y4{t:Th}(h:gI t):∀x∈[t],gI x:=fun x hx=>by rw[List.mem_singleton]at hx;exact hx▸h
theorem Y5{t u:Th}(h:gI t)(h':gI u):∀x∈[t,u],gI x:=fun x hx=>by
 rw[List.mem_cons,List.mem_singleton]at hx;rcases hx with rfl|rfl<;>assumption
theorem wx{C:Cl}{L L0:LP}{z:Int}(hp:lC C)(ht:me C)(hf:Fe C){w:Int}{ns:List Int}{n:Nat}{sp line left l:Int}{tl:List (Option aL)}{γ:Nat}{sv:Bool}{Q:KV}(oK:sp+1=(n:Int))(hn:n+9<=80000)(hl:ns.length<=70)(pC:Ln l)
  (k:∀(f:SF) (n':Nat) (ij:Int) (τ:List aL),Jm L L0 sv f->ij+1=(n':Int)->n'<=n+9->Q (.d (cy f)) (dk ns ij line left tl γ τ)):
  gz (ex G C 60) ((P.code gD).drop 5) [(ay,.b 0),(ba,.d (.int l)),(dW,.d (.int z)),(bg,.d (.bool sv)),(ip,.d (.int w))] (dk ns sp line left tl γ []) (fQ Q):=by
 refine hp ns n sp line left tl γ (Int.ofNat 5) _ (by decide) oK (ai hn) hl fun p ND h5p=>?_;rcases Y3 ND h5p with rfl|rfl|rfl|rfl|rfl
 ·conv=>whnf
  refine ht ns (n+1) (Int.ofNat n) line left tl γ _ rfl (ai hn) hl fun t to=>?_;refine hp ns (n+3) (Int.ofNat (n+2)) line left tl γ (Int.ofNat 2) _ (by decide) rfl (ai hn) hl fun u NF NG=>?_;exact k (.dr l t (decide (u=Int.ofNat 1))) (n+4) (Int.ofNat (n+3)) _ ⟨pC,to⟩ rfl (by omega)
 ·conv=>whnf
  refine hp ns (n+1) (Int.ofNat n) line left tl γ (Int.ofNat 2) _ (by decide) rfl (ai hn) hl fun u NF NG=>?_;rcases two NF NG with rfl|rfl
  ·conv=>whnf
   refine ht ns (n+2) (Int.ofNat (n+1)) line left tl γ _ rfl (ai hn) hl fun t to=>?_;exact k (.abort l [t]) (n+4) (Int.ofNat (n+3)) _ ⟨pC,by simp,Y4 to⟩ rfl (by omega)
  ·conv=>whnf
   refine ht ns (n+2) (Int.ofNat (n+1)) line left tl γ _ rfl (ai hn) hl fun t to=>?_;refine ht ns (n+4) (Int.ofNat (n+3)) line left tl γ _ rfl (ai hn) hl fun t' to'=>?_;exact k (.abort l [t,t']) (n+6) (Int.ofNat (n+5)) _ ⟨pC,by simp,Y5 to to'⟩ rfl (by omega)
 ·induction sv using Bool.casesOn with
  |false=>
   exact k (.null l) (n+1) (Int.ofNat n) _ pC rfl (by omega)
  |true=>
   refine hp ns (n+1) (Int.ofNat n) line left tl γ (Int.ofNat 2) _ (by decide) rfl (ai hn) hl fun u NF NG=>?_;rcases two NF NG with rfl|rfl
   all_goals
    refine hf ns (n+2) (Int.ofNat (n+1)) line left tl γ _ rfl (ai hn) hl fun f fo=>?_;refine hp ns (n+5) (Int.ofNat (n+4)) line left tl γ (Int.ofNat 2) _ (by decide) rfl (ai hn) hl fun v h0v h2v=>?_
   ·exact k (.cK l false f (decide (v=Int.ofNat 1))) (n+6) (Int.ofNat (n+5)) _ ⟨rfl,pC,fo⟩ rfl (by omega)
   ·exact k (.cK l true f (decide (v=Int.ofNat 1))) (n+6) (Int.ofNat (n+5)) _ ⟨rfl,pC,fo⟩ rfl (by omega)
 ·induction sv using Bool.casesOn with
  |false=>
   exact k (.null l) (n+1) (Int.ofNat n) _ pC rfl (by omega)
  |true=>
   exact k (.ret l) (n+1) (Int.ofNat n) _ ⟨rfl,pC⟩ rfl (by omega)
 ·conv=>whnf
  exact k (.null l) (n+1) (Int.ofNat n) _ pC rfl (by omega)
theorem Ri{C:Cl}{L L0:LP}{z:Int}(hz:z=0)(hp:lC C)(ht:me C)(hf:Fe C):GB L L0 z (Run C):=by
 intro ns n sp line left l tl γ sv Q oK hn hl pC k;subst hz;show gz (ex G C 60) ((P.code gD).take 5++(P.code gD).drop 5) [(ay,.b 0),(ba,.d (.int l)),(dW,.d (.int 0)),(bg,.d (.bool sv))] (dk ns sp line left tl γ []) (fQ Q);refine bq fun R hR=>?_;have:=wx (L:=L) (L0:=L0) (z:=0) hp ht hf (w:=Int.ofNat 6) (sv:=sv) oK (ai hn) hl pC k;exact hR _ _ this
theorem Vl{C:Cl}{L L0:LP}{S:Nat}{z:Int}(hp:lC C)(ht:me C)(hf:Fe C)(hc:Gy C)(ha:pA L S z C)(hse:Rf L L0 S z C)(hs:oN L S (z-1) C):NH L L0 S z (Run C):=by
 intro ns n sp line left l tl γ sv Q oK hn hl h0 hS pC k;show gz (ex G C 60) ((P.code gD).take 5++(P.code gD).drop 5) [(ay,.b 0),(ba,.d (.int l)),(dW,.d (.int z)),(bg,.d (.bool sv))] (dk ns sp line left tl γ []) (fQ Q);refine bq fun R hR=>?_;have six:=fun(w:Int)=>hR _ _ (wx (L:=L) (L0:=L0) (z:=z) hp ht hf (w:=w) (sv:=sv) oK (ai hn) hl pC fun f n' ij τ q1 q2 q3=>k f n' ij line left τ q1 q2 (ai q3) (Int.le_refl _) (by omega));have Y6:=fun(w:Int)=>hR _ _ (wx (L:=L) (L0:=L0) (z:=z) hp ht hf (w:=w) (sv:=sv) (sp:=Int.ofNat n) (n:=n+1) rfl (ai hn) hl pC fun f n' ij τ q1 q2 q3=>k f n' ij line left τ q1 q2 (ai q3) (Int.le_refl _) (by omega))
 conv=>whnf
 split
 ·conv=>whnf
  split
  ·conv=>whnf
   refine hp ns n sp line left tl γ (Int.ofNat 9) _ (by decide) oK (ai hn) hl fun p ND h9p=>?_;rcases nine ND h9p with rfl|rfl|rfl|rfl|rfl|rfl|rfl|rfl|rfl
   iterate 2
    ·conv=>whnf
     refine hc ns (n+1) (Int.ofNat n) line left tl γ l _ rfl (ai hn) hl fun c n1 Ap co w1 w2=>?_;exact k (.call l c) n1 Ap line left _ ⟨pC,co⟩ w1 (ai w2) (by omega) (by omega)
   ·conv=>whnf
    refine ha ns (n+1) (Int.ofNat n) line left l tl γ _ rfl (ai hn) hl h0 (by omega) fun e aP fm b n' ij aY bU fo hb pM hle h1 h2=>?_;exact k (.acc l e aP fm b) n' ij aY bU _ ⟨pC,fo,hb⟩ pM (ai hle) (by omega) (by omega)
   iterate 2
    ·conv=>whnf
     refine hse ns (n+1) (Int.ofNat n) line left l tl γ sv _ rfl (ai hn) hl h0 (by omega) pC fun f n' ij aY bU τ fo pM hle h1 h2=>?_;rcases f with _|_<;>exact k _ n' ij aY bU _ fo pM (ai hle) (by omega) (by omega)
   ·conv=>whnf
    refine hs ns (n+1) (Int.ofNat n) line left tl γ sv _ rfl (ai hn) hl h0 (by omega) fun b n2 GA iI jt τ hb v1 v2 v3 v4=>?_;exact k (.block l b) n2 GA iI jt _ ⟨pC,hb⟩ v1 (ai v2) (by omega) (by omega)
   all_goals
    exact Y6 _
  ·conv=>whnf
   exact six _
 ·conv=>whnf
  exact six _
noncomputable def Ld(L L0:LP)(T U:Nat)(z:Int)(C:Cl):Prop:=∀(ns:List Int) (n:Nat) (sp line left l:Int) (tl:List (Option aL)) (γ:Nat) (sv:Bool) (Q:KV),sp+1=(n:Int)->n+T<=80000->ns.length<=70->0<=line->line+U<=90000->Ln l->
 (∀(f:SF) (n':Nat) (ij aY bU:Int) (τ:List aL),Jm L L0 sv f->ij+1=(n':Int)->n'<=n+T->line<=aY->aY<=line+U->Q (.d (cy f)) (dk ns ij aY bU tl γ τ))->C gD [.b 0,.d (.int l),.d (.int z),.d (.bool sv)] (dk ns sp line left tl γ []) Q
theorem NH.g{L L0:LP}{S:Nat}{z:Int}{C:Cl}(h:NH L L0 S z C):Ld L L0 (3*S+122) (3*S+40) z C:=fun ns n sp line left l tl γ sv Q a b c d e f k=>
 h ns n sp line left l tl γ sv Q a (ai b) c d (by omega) f fun g n' ij aY bU τ q1 q2 q3 q4 q5=>k g n' ij aY bU τ q1 q2 (ai q3) q4 (by omega)
theorem GB.g{L L0:LP}{z:Int}{C:Cl}(h:GB L L0 z C):Ld L L0 10 0 z C:=fun ns n sp line left l tl γ sv Q a b c d e f k=>
 h ns n sp line left l tl γ sv Q a (by omega) c f fun g n' ij τ q1 q2 q3=>k g n' ij line left τ q1 q2 (ai q3) (by omega) (by omega)
noncomputable def k4(z:Int)(sv:Bool)(rest:ak):ak:=(ay,.b 0)::(dW,.d (.int z))::(bg,.d (.bool sv))::(cf,.t 0)::rest
noncomputable def rQ(rest:ak):Prop:=rest=[]\/∃a,rest=[(df,.d a)]
noncomputable def mP:List T:=[.asg (.sub (.var ay) (.c (.str eM))) (.bin .sub (.sub (.var ay) (.c (.str eM))) (.c (.int (.ofNat 1)))),.asg (.sub (.var ay) (.c (.str ba))) (.bin .add (.sub (.var ay) (.c (.str ba))) (.c (.int (.ofNat 1)))),.expr (.append (.var cf) (.call gD [(.var ay),(.sub (.var ay) (.c (.str ba))),(.var dW),(.var bg)]))]
theorem Ii{C:Cl}{L L0:LP}{T U:Nat}{z:Int}(ho:Ld L L0 T U z C)
  {ns:List Int} {n:Nat} {sp line left:Int} {tl:List (Option aL)} {γ:Nat} {sv:Bool} {rest:ak} {r:List D} {x:D} {R:ak->St->Prop} {Q:KF} (hr:rQ rest) (xA:r.length<=100)
  (oK:sp+1=(n:Int)) (hn:n+T<=80000) (hl:ns.length<=70) (h0:0<=line) (hU:line+(U+1)<=90000)
  (k:∀(f:SF) (n':Nat) (ij aY bU:Int) (aG:ak),Jm L L0 sv f->rQ aG->ij+1=(n':Int)->n'<=n+T->line<=aY->aY<=line+(U+1)->R (k4 z sv aG) (dk ns ij aY bU tl γ [.list [] (cy f::r)])):
  gz (ex G C 59) mP (i9 df (.d x) (k4 z sv rest)) (dk ns sp line left tl γ [.list [] r]) (wo R Q):=by
 rcases hr with rfl|⟨a0,rfl⟩
 all_goals
  refine⟨by show 4<=100;decide,?_⟩;refine⟨by show 4<=100;decide,?_⟩;refine ho ns n sp (line+Int.ofNat 1) (left-Int.ofNat 1) (line+Int.ofNat 1) tl γ sv _ oK hn hl ?_ ?_ ?_ fun f n' ij aY bU τ fo q1 q2 q3 q4=>?_
  ·show 0<=line+1;exact xr h0
  ·show line+1+U<=90000;exact xr hU
  ·show 0<=line+1/\line+1<=100000;exact⟨xr h0,y4 hU (DK (U))⟩
  ·replace q3:line+1<=aY:=q3;replace q4:aY<=line+1+U:=q4;have z1:0+r.length<ah:=by unfold ah;exact ai xA
   rcases f with _|_<;>
   ·refine⟨z1,?_⟩;exact k _ n' ij aY bU [(df,.d x)] fo (.inr ⟨_,rfl⟩) q1 q2 (xr q3) (xr q4)
theorem Ij{C:Cl}{L L0:LP}{T U:Nat}{z:Int}(ho:Ld L L0 T U z C)
  {ns:List Int} {tl:List (Option aL)} {γ:Nat} {sv:Bool} {Q:KF} (hl:ns.length<=70):∀(xs:List D) (n:Nat) (sp line left:Int) (rest:ak) (acc:List D),
  rQ rest->acc.length+xs.length<=2->(∀a∈acc,∃f,Jm L L0 sv f/\a=cy f)->sp+1=(n:Int)->n+xs.length*T<=80000->0<=line->line+xs.length*((U:Int)+1)<=90000->
  (∀(wu:List D) (n':Nat) (ij aY bU:Int) (aG:ak),wu.length=acc.length+xs.length->(∀a∈wu,∃f,Jm L L0 sv f/\a=cy f)->rQ aG->ij+1=(n':Int)->n'<=n+xs.length*T->line<=aY->aY<=line+xs.length*((U:Int)+1)->Q .next (k4 z sv aG) (dk ns ij aY bU tl γ [.list [] wu]))->
  forL (ex G C 59) [df] mP none xs (k4 z sv rest) (dk ns sp line left tl γ [.list [] acc]) Q:=by
 intro l0
 induction l0 with
 |nil=>
  intro n sp line left rest acc hr h3 wh oK hn h0 hS k;exact k acc n sp line left rest rfl wh hr oK (by omega) (by omega) (by simp only[List.length_nil,Int.natCast_zero,Int.zero_mul];omega)
 |cons x xs ih=>
  intro n sp line left rest acc hr h3 wh oK hn h0 hS k;rw[List.length_cons]at h3;have e1:(x::xs).length*T=xs.length*T+T:=Nat.succ_mul _ _;have e2:(((x::xs).length:Nat):Int)*((U:Int)+1)=(xs.length:Int)*((U:Int)+1)+((U:Int)+1):=by
   rw[List.length_cons,Int.natCast_succ,Int.add_mul,Int.one_mul]
  have p1:0<=(xs.length:Int)*((U:Int)+1):=Int.mul_nonneg (xr (DK (xs.length))) (xr (DK (U)));rw[e1]at hn k;rw[e2]at hS k;refine az (dm) ?_;refine Ii ho hr (ai h3) oK (ai hn) hl h0 (y4 hS p1) fun f n' ij aY bU aG fo jc Rh pM yL DD=>?_;refine ih n' ij aY bU aG (cy f::acc) jc (by rw[List.length_cons];exact ai h3) (fun b hb=>?_) Rh (aZ hn pM) (y4 h0 yL) (y4 hS DD) fun wu n2 GA iI jt gV q1 q2 q3 q4 q5 q6 q7=>?_
  ·rcases List.mem_cons.mp hb with rfl|hb
   ·exact⟨f,fo,rfl⟩
   ·exact wh b hb
  ·exact k wu n2 GA iI jt gV (by rw[q1,List.length_cons,List.length_cons];omega) q2 q3 q4 (aZ pM q5) (y4 yL q6) (y4 DD q7)
theorem Le{C:Cl}{L L0:LP}{T U S:Nat}{z:Int}(hp:lC C)(ho:Ld L L0 T U z C)(hz:(z=0/\T<=S/\U+1<=S)\/(1+2*T<=S/\2*(U+1)<=S))(h8:S<=80000):oN (Ny L L0) S z (Run C):=by
 intro ns n sp line left tl γ sv Q oK hn hl h0 hS k;have go:∀(c n1:Nat) (Ap:Int),c<=2->Ap+1=(n1:Int)->n1+c*T<=n+S->line+c*((U:Int)+1)<=line+S->
   forL (ex G C 59) [df] mP none (eL c) (k4 z sv []) (dk ns Ap line left tl γ [.list [] []]) (MC (fun ê σ=>gz (ex G C 60) [.ret (some (.var cf))] ê σ (fQ Q)) (fQ Q)):=by
  intro c n1 Ap hc h1 h2 h3;have xA:(eL c).length=c:=by unfold eL;rw[List.length_map,List.length_range]
  refine Ij ho hl (eL c) n1 Ap line left [] [] (.inl rfl) (by rw[xA];simp only[List.length_nil];exact ai hc) (fun a ha=>by rcases ha with _|_) h1 (by rw[xA];exact aZ hn h2) h0 (by rw[xA];exact y4 hS h3) fun acc n' ij aY bU aG q1 q2 q3 q4 q5 q6 q7=>?_;rw[xA]at q1 q5 q7;have hle:acc.reverse.length<=2:=by
   refine az (List.length_reverse) ?_;refine az (q1) ?_;show 0+c<=2;exact ai hc
  rcases q3 with rfl|⟨a0,rfl⟩
  all_goals
   exact k acc.reverse n' ij aY bU _ ⟨hle,fun x hx=>q2 x (List.mem_reverse.mp hx)⟩ q4 (aZ h2 q5) q6 (y4 h3 q7)
 have one:=go 1 n sp (by decide) oK (by omega) (by omega);show gz (ex G C 60) ((P.code dM).take 2++(P.code dM).drop 2) [(ay,.b 0),(dW,.d (.int z)),(bg,.d (.bool sv))] (dk ns sp line left tl γ []) (fQ Q);rw[An];show ex G C 60 (.gN [df] (.sg (.ite (.cx (.cmp .gt (.var dW) (.c (.int (.ofNat 0)))) (.cmp .gt (.sub (.var ay) (.c (.str eM))) (.c (.int (.ofNat 0))))) (.call aT [(.var ay),(.c (.int (.ofNat 3)))]) (.c (.int (.ofNat 1))))) mP) (k4 z sv []) (dk ns sp line left tl γ [.list [] []]) (MC (fun ê σ=>gz (ex G C 60) [.ret (some (.var cf))] ê σ (fQ Q)) (fQ Q));generalize MC (fun ê σ=>gz (ex G C 60) [.ret (some (.var cf))] ê σ (fQ Q)) (fQ Q)=K at go one⊢;show mq (ev G C 59) (.sg (.ite (.cx (.cmp .gt (.var dW) (.c (.int (.ofNat 0)))) (.cmp .gt (.sub (.var ay) (.c (.str eM))) (.c (.int (.ofNat 0))))) (.call aT [(.var ay),(.c (.int (.ofNat 3)))]) (.c (.int (.ofNat 1))))) (k4 z sv []) (dk ns sp line left tl γ [.list [] []]) (fun xs w ab=>forL (ex G C 59) [df] mP w xs (k4 z sv []) ab K);have ex1:∃F:List D->Option (Nat×List D)->St->Prop,F=fun xs w ab=>forL (ex G C 59) [df] mP w xs (k4 z sv []) ab K:=⟨_,rfl⟩;obtain⟨F,hF⟩:=ex1;refine Je (hF) ?_;have Y7:∀(c n1:Nat) (Ap:Int),c<=2->Ap+1=(n1:Int)->n1+c*T<=n+S->line+c*((U:Int)+1)<=line+S->F (eL c) none (dk ns Ap line left tl γ [.list [] []]):=by
  rw[hF];exact go
 have Vm:F (eL 1) none (dk ns sp line left tl γ [.list [] []]):=by
  rw[hF];exact one
 clear hF go one
 conv=>whnf
 split
 ·rename_i hd;have QN:(1+2*T<=S/\2*(U+1)<=S):=by
   rcases hz with⟨rfl,_⟩|h
   ·exact absurd hd (by decide)
   ·exact h
  conv=>whnf
  split
  ·conv=>whnf
   refine hp ns n sp line left tl γ (Int.ofNat 3) _ (by decide) oK (ai hn) hl fun p ND Y1=>?_;rcases three ND Y1 with rfl|rfl|rfl
   ·conv=>whnf
    exact Y7 0 (n+1) (Int.ofNat n) (by decide) rfl (ai QN.1) (xr (DK (S)))
   ·conv=>whnf
    exact Y7 1 (n+1) (Int.ofNat n) (by decide) rfl (ai QN.1) (by omega)
   ·conv=>whnf
    exact Y7 2 (n+1) (Int.ofNat n) (by decide) rfl (ai QN.1) (by omega)
  ·conv=>whnf
   exact Vm
 ·conv=>whnf
  exact Vm
noncomputable def Bz:Nat->Nat
 |0=>10
 |n+1=>6*Bz n+250
theorem Vn:∀n,10<=Bz n
 |0=>Nat.le_refl _
 |n+1=>by show 10<=6*Bz n+250;omega
theorem Pr:∀n,n<=3->Bz n<=20000
 |0,_=>by decide
 |1,_=>by decide
 |2,_=>by decide
 |3,_=>by decide
 |_+4,h=>absurd h (by exact Nat.not_le_of_lt (by omega))
theorem lD:∀{d:Nat},1<=d->lC (Cd G P d)
 |0,h=>absurd h (by decide)
 |_+1,_=>Rb
theorem rR:∀{d:Nat},2<=d->me (Cd G P d)
 |0,h=>absurd h (by decide)
 |_+1,h=>NB (lD (ai h))
theorem GC:∀{d:Nat},3<=d->Fe (Cd G P d)
 |0,h=>absurd h (by decide)
 |_+1,h=>Vi (lD (ai h)) (rR (ai h))
theorem NI:∀{d:Nat},2<=d->wt (Cd G P d)
 |0,h=>absurd h (by decide)
 |_+1,h=>NC (lD (ai h))
theorem Lf:∀{d:Nat},4<=d->Gy (Cd G P d)
 |0,h=>absurd h (by decide)
 |_+1,h=>Rd (lD (ai h)) (rR (ai h)) (GC (ai h))
theorem Rj:∀{d:Nat},4<=d->GB WW WW 0 (Cd G P d)
 |0,h=>absurd h (by decide)
 |_+1,h=>Ri rfl (lD (ai h)) (rR (ai h)) (GC (ai h))
theorem GF:∀{d:Nat},5<=d->oN Nz 10 0 (Cd G P d)
 |0,h=>absurd h (by decide)
 |_+1,h=>Le (T:=10) (U:=0) (lD (ai h)) (Rj (ai h)).g (.inl ⟨rfl,by decide,by decide⟩) (by decide)
theorem Lg:∀(n d:Nat) (z:Int),n<=3->z=(n:Int)->5*n+5<=d->oN (SL n) (Bz n) z (Cd G P d)
 |0,d,z,_,hz,h=>by subst hz;exact GF (by omega)
 |n+1,0,z,hn,hz,h=>absurd h (by exact Nat.not_le_of_lt (by omega))
 |n+1,d+1,z,hn,hz,h=>by
  have hb:6*Bz n+250<=20000:=Pr (n+1) hn;have QD:=Vn n;have hr:∀d,5*n+5<=d->oN (SL n) (Bz n) (z-1) (Cd G P d):=fun d hd=>Lg n d (z-1) (ai hn) (by omega) hd;have ac:∀d,5*n+6<=d->pA (SL n) (Bz n) z (Cd G P d)
   |0,hd=>absurd hd (by exact Nat.not_le_of_lt (by omega))
   |d+1,hd=>K8 (lD (ai hd)) (GC (ai hd)) (hr d (ai hd))
  have sc:∀d,5*n+7<=d->Rf (SL n) Nz (Bz n) z (Cd G P d)
   |0,hd=>absurd hd (by exact Nat.not_le_of_lt (by omega))
   |d+1,hd=>Vk QD (lD (ai hd)) (rR (ai hd)) (NI (ai hd)) (Lf (ai hd)) (ac d (ai hd)) (hr d (ai hd)) (GF (ai hd))
  have oc:∀d,5*n+8<=d->NH (SL n) Nz (Bz n) z (Cd G P d)
   |0,hd=>absurd hd (by exact Nat.not_le_of_lt (by omega))
   |d+1,hd=>Vl (lD (ai hd)) (rR (ai hd)) (GC (ai hd)) (Lf (ai hd)) (ac d (ai hd)) (sc d (ai hd)) (hr d (ai hd))
  have e:Bz (n+1)=6*Bz n+250:=by rw[Bz]
  have b:∀x y:Nat,y=6*x+250->y<=20000->(1+2*(3*x+122)<=y/\2*(3*x+40+1)<=y)/\y<=80000:=by intro x y a b;exact⟨⟨ai (xq a),ai (xq a)⟩,ai b⟩
  have⟨b3,b5⟩:=b _ _ e (Pr (n+1) hn);exact Le (lD (ai h)) (oc d (ai h)).g (.inr b3) b5
section
set_option genCtorIdx false
inductive Row where
 |const (k:Int)
 |obj (a:Int) (s:Str)
 |place
 |target
 |wy
 |mQ
 |gJ (m:Nat)
 |j7 (m:Nat)
 |step (l:Int)
 |block
 |arm
 |bL
 |fw
 |i5
 |cP
 |jS (e:Str) (f c:Nat)
 |bu (e:Str) (f c:Nat) (how:Option Bool) (m:Nat)
 |accept (e:Str) (f:Nat) (fm:D)
 |cL (fm:D)
 |gi
 |iP (i:Nat) (e:Str) (f:Nat)
 |jT (i:Nat) (u:Bool)
 |pD (i:Nat)
 |select (b:Bool) (ms:List Nat) (m:Nat)
 |dr (u:Bool)
 |abort
 |cK (e:Str) (f p:Nat) (u:Bool)
noncomputable def qE:Option Bool->Str
 |none=>sE
 |some true=>zl
 |some false=>bE
noncomputable def bV(M:Nat->Int):Row->D
 |.const k=>.tuple [.str j2,.int k]
 |.obj a s=>.tuple [.str iE,.int a,.str s]
 |.place=>.tuple [.str nh,.int (.ofNat 0),.str SE]
 |.target=>.tuple [.str da,tR]
 |.wy=>.tuple [.str fV]
 |.mQ=>.tuple [.str dc]
 |.gJ m=>.tuple [.str jL,.int (M m)]
 |.j7 m=>.tuple [.str mE,.int (M m)]
 |.step l=>.tuple [.str m8,.int l]
 |.block=>.tuple [.str gk,.str aI]
 |.arm=>.tuple [.str qU,.list [],.list []]
 |.bL=>.tuple [.str fM]
 |.fw=>.tuple [.str fb]
 |.i5=>.tuple [.str gf]
 |.cP=>.tuple [.str iC]
 |.jS e f c=>.tuple [.str cu,.str e,.int (.ofNat f),.int (.ofNat c)]
 |.bu e f c how m=>.tuple [.str dJ,.str e,.int (.ofNat f),.int (.ofNat c),.str (qE how),.int (M m)]
 |.accept e f fm=>.tuple [.str bw,.str e,.int (.ofNat f),fm]
 |.cL fm=>.tuple [.str cO,fm]
 |.gi=>.tuple [.str qk]
 |.iP i e f=>.tuple [.str bN,.int (.ofNat i),.str e,.int (.ofNat f)]
 |.jT i u=>.tuple [.str de,.int (.ofNat i),.bool u]
 |.pD i=>.tuple [.str eG,.int (.ofNat i)]
 |.select b ms m=>.tuple [.str bB,.bool b,.list (ms.map fun m=>.int (M m)),.int (M m)]
 |.dr u=>.tuple [.str bE,.bool u]
 |.abort=>.tuple [.str d5]
 |.cK e f p u=>.tuple [.str cz,.str e,.int (.ofNat f),.int (.ofNat p),.bool u]
noncomputable def Bb:Row->Int
 |.const _=>1
 |.obj _ _=>1
 |.place=>1
 |.j7 _=> -1
 |.jS _ f c=> -(1+f+c)
 |.bu _ f c how _=> -(1+f+c+(match how with|none=>0|some _=>1))
 |.accept _ f _=> -f
 |.gi=>1
 |.iP _ _ f=> -f
 |.jT _ _=> -1
 |.select _ _ _=> -1
 |.dr _=> -1
 |.abort=> -1
 |.cK _ f p _=> -(f+p)
 |_=>0
noncomputable abbrev M0:Nat->Int:=Int.ofNat
structure Fr where
 ns:List Int
 sp:Int
 line:Int
 left:Int
 body:List D
noncomputable def GG(b:List D):aL:=.inst 2 [(vt,.d (.str Yg)),(sI,.d (.bool false)),(sJ,.d (.list [])),(gY,.d (.list [])),(bo,.d (.list b)),(cV,.d (.list []))]
noncomputable def nE:aL:=.dict [(qj,.fn lP),(vr,.fn l8),(Qq,.fn sO),(D1,.fn oa),(D2,.fn og),(D3,.fn oh),(gk,.fn hZ),(qV,.fn nu),(mA,.fn j4),
 (cu,.fn ia),(bw,.fn gA),(cz,.fn fY),(bB,.fn gC),(bE,.fn kS),(d5,.fn kT)]
noncomputable def qc:aL:=.dict [(cu,.fn ia),(bw,.fn gA),(cz,.fn fY),(bB,.fn gC),(bE,.fn kS),(d5,.fn kT)]
noncomputable def rS:aL:=.dict [(ph,.b 17),(fT,.b 18),(fk,.b 2),(lq,.b 19)]
noncomputable def oO:aL:=.dict [(pZ,.fn sP),(qj,.fn vM),(iE,.fn sQ),(D4,.fn vN),(vu,.fn vO),(qY,.fn tI),(qZ,.fn tJ),(q0,.fn tK)]
noncomputable def pE:aL:=.dict [(iE,.fn oj),(vu,.fn rp),(qY,.fn p5),(qZ,.fn p6),(q0,.fn p7),(D5,.fn ji),(D6,.fn ji)]
noncomputable def Ff(h av:Int):aL:=.inst 0 [(eg,.b 3),(bT,.b 5),(dn,.b 6),(aN,.d (.int h)),(c9,.d (.int av)),(uF,.d (.list [])),(iW,.b 7),(j0,.d (.int (.ofNat 0))),(lO,.d (.list []))]
noncomputable def tS(p:Nat×Nat):ag:=.ob 1 [(j1,.none),(eX,.int (.ofNat p.1)),(aN,.int (.ofNat 0)),(c9,.int (.ofNat p.2))]
noncomputable def cS(fr:Fr)(rr:List Row)(mr:List Int)(aB:List (Nat×Nat))(h av:Int)(γ:Nat)(τ:List aL):St:=
 ⟨[some (mO fr.ns fr.sp fr.line fr.left),some (GG fr.body),some nE,some rS,some (Ff h av),some (.list [] (rr.map (bV M0))),some (.list [] (mr.map PyData.int)),some (.list (aB.map tS) []),
  none,none,none,none,none,none,none,none,some qc,some oO,some pE,some (.dict [])],τ,γ⟩
noncomputable def s8(C:Cl):Prop:=∀(r:Row) (fr:Fr) (rr:List Row) (mr:List Int) (aB:List (Nat×Nat)) (h av:Int) (γ:Nat) (Q:KV),rr.length<=100000->
 (∀h',h'=h+Bb r->Q (.d .none) (cS fr (r::rr) mr aB h' av γ []))->C cB [.b 4,.d (bV M0 r)] (cS fr rr mr aB h av γ []) Q
noncomputable def Rk(C:Cl):Prop:=∀(r:Row) (σ:St) (Q:KV),σ.temps=[]->
 (∀t l:Int,l-t=Bb r->Q (.d (.tuple [.int t,.int l])) σ)->C iZ [.d (bV M0 r)] σ Q
noncomputable def wz(C:Cl):Prop:=∀(r:Row) (σ:St) (Q:KV),σ.temps=[]->∀w xs s,bV M0 r=.tuple (.str w::xs)->dE w uG=some s->
 Q (.d s) σ->C nq [.d (bV M0 r)] σ Q
theorem NJ{C:Cl}:wz (Run C):=by
 intro r σ Q Ik w xs s hw hs k;cases σ;cases Ik;cases r<;>(cases hw;cases hs;conv=>whnf)
 all_goals exact k
noncomputable def NK:List T:=[.fL (.cmp .eq (.sub (.var bM) (.var aW)) (.c (.str Ub))) [.aug d4 .add (.sub (.var s_row) (.bin .add (.var aW) (.c (.int (.ofNat 1)))))] [.fL (.cx (.cmp .eq (.sub (.var bM) (.var aW)) (.c (.str s_w))) (.cmp .ne (.sub (.var s_row) (.bin .add (.var aW) (.c (.int (.ofNat 1))))) (.c (.str sE)))) [.aug d4 .add (.c (.int (.ofNat 1)))] []]]
theorem Lh:(P.code iZ).drop 1=[.gN [aW] (.sg (.len (.var bM))) NK]++(P.code iZ).drop 2:=rfl
set_option tactic.hygienic true in
set_option maxHeartbeats 400000 in
theorem Vo{C:Cl}(hs:wz C):Rk (Run C):=by
 intro r σ Q Ik k;cases σ;rcases Ik with _|_
 rcases r with _|_
 case const k0=>
  refine hs (.const k0) ⟨_,[],_⟩ _ rfl _ _ _ rfl rfl ?_
  all_goals
   refine k _ _ ?_;rfl
 case obj a s=>
  refine hs (.obj a s) ⟨_,[],_⟩ _ rfl _ _ _ rfl rfl ?_
  all_goals
   refine k _ _ ?_;rfl
 case place=>
  refine hs (.place) ⟨_,[],_⟩ _ rfl _ _ _ rfl rfl ?_
  all_goals
   refine k _ _ ?_;rfl
 case target=>
  refine hs (.target) ⟨_,[],_⟩ _ rfl _ _ _ rfl rfl ?_
  all_goals
   refine k _ _ ?_;rfl
 case wy=>
  refine hs (.wy) ⟨_,[],_⟩ _ rfl _ _ _ rfl rfl ?_
  all_goals
   refine k _ _ ?_;rfl
 case mQ=>
  refine hs (.mQ) ⟨_,[],_⟩ _ rfl _ _ _ rfl rfl ?_
  all_goals
   refine k _ _ ?_;rfl
 case gJ m=>
  refine hs (.gJ m) ⟨_,[],_⟩ _ rfl _ _ _ rfl rfl ?_
  all_goals
   refine k _ _ ?_;rfl
 case j7 m=>
  refine hs (.j7 m) ⟨_,[],_⟩ _ rfl _ _ _ rfl rfl ?_
  all_goals
   refine k _ _ ?_;rfl
 case step l=>
  refine hs (.step l) ⟨_,[],_⟩ _ rfl _ _ _ rfl rfl ?_
  all_goals
   refine k _ _ ?_;rfl
 case block=>
  refine hs (.block) ⟨_,[],_⟩ _ rfl _ _ _ rfl rfl ?_
  all_goals
   refine k _ _ ?_;rfl
 case arm=>
  refine hs (.arm) ⟨_,[],_⟩ _ rfl _ _ _ rfl rfl ?_
  all_goals
   refine k _ _ ?_;rfl
 case bL=>
  refine hs (.bL) ⟨_,[],_⟩ _ rfl _ _ _ rfl rfl ?_
  all_goals
   refine k _ _ ?_;rfl
 case fw=>
  refine hs (.fw) ⟨_,[],_⟩ _ rfl _ _ _ rfl rfl ?_
  all_goals
   refine k _ _ ?_;rfl
 case i5=>
  refine hs (.i5) ⟨_,[],_⟩ _ rfl _ _ _ rfl rfl ?_
  all_goals
   refine k _ _ ?_;rfl
 case cP=>
  refine hs (.cP) ⟨_,[],_⟩ _ rfl _ _ _ rfl rfl ?_
  all_goals
   refine k _ _ ?_;rfl
 case jS e f c=>
  refine hs (.jS e f c) ⟨_,[],_⟩ _ rfl _ _ _ rfl rfl ?_
  all_goals
   refine k _ _ ?_;simp only[Bb,Int.ofNat_eq_natCast];omega
 case bu e f c how m=>
  show gz (ex G C 60) ((P.code iZ).take 1++(P.code iZ).drop 1) [(s_row,.d (bV M0 (.bu e f c how m)))] _ _;refine bq fun R hR=>?_;refine hs (.bu e f c how m) ⟨_,[],_⟩ _ rfl _ _ _ rfl rfl ?_;refine hR [(s_row,.d (bV M0 (.bu e f c how m))),(d4,.d (.int (.ofNat 1))),(eM,.d (.int (.ofNat 0))),(bM,.d (.str jO))] _ ?_;refine az (Lh) ?_;refine bq fun R2 tT=>?_;refine js fun F hF=>?_;refine hF [.int (.ofNat 0),.int (.ofNat 1),.int (.ofNat 2),.int (.ofNat 3),.int (.ofNat 4)] none _ ?_;refine az (dm) ?_;refine wq fun R3 NL=>?_;refine NL [(s_row,.d (bV M0 (.bu e f c how m))),(d4,.d (.int (.ofNat 1))),(eM,.d (.int (.ofNat 0))),(bM,.d (.str jO)),(aW,.d (.int (.ofNat 0)))] _ ?_;refine az (dm) ?_;refine wq fun R3 NL=>?_;refine NL [(s_row,.d (bV M0 (.bu e f c how m))),(d4,.d (.int (.ofNat (1+f)))),(eM,.d (.int (.ofNat 0))),(bM,.d (.str jO)),(aW,.d (.int (.ofNat 1)))] _ ?_;refine az (dm) ?_;refine wq fun R3 NL=>?_;refine NL [(s_row,.d (bV M0 (.bu e f c how m))),(d4,.d (.int (.ofNat (1+f+c)))),(eM,.d (.int (.ofNat 0))),(bM,.d (.str jO)),(aW,.d (.int (.ofNat 2)))] _ ?_;refine az (dm) ?_;refine wq fun R3 NL=>?_;have tl:∀t,t=1+f+c+(match how with|none=>0|some _=>1)->R3 [(s_row,.d (bV M0 (.bu e f c how m))),(d4,.d (.int (.ofNat t))),(eM,.d (.int (.ofNat 0))),(bM,.d (.str jO)),(aW,.d (.int (.ofNat 3)))] ⟨_,[],_⟩:=fun t ht=>by
   refine NL _ _ ?_;refine az (dm) ?_;refine wq fun R4 Y8=>?_;refine Y8 [(s_row,.d (bV M0 (.bu e f c how m))),(d4,.d (.int (.ofNat t))),(eM,.d (.int (.ofNat 0))),(bM,.d (.str jO)),(aW,.d (.int (.ofNat 4)))] _ ?_;refine tT _ _ ?_;refine k (.ofNat t) (.ofNat 0) ?_;subst ht;rcases how with _|_<;>
   ·simp only[Bb,Int.ofNat_eq_natCast];omega
  rcases how with _|_|_
  all_goals
   exact tl _ rfl
 case accept e f fm=>
  refine hs (.accept e f fm) ⟨_,[],_⟩ _ rfl _ _ _ rfl rfl ?_
  all_goals
   refine k _ _ ?_;simp only[Bb,Int.ofNat_eq_natCast];omega
 case cL fm=>
  refine hs (.cL fm) ⟨_,[],_⟩ _ rfl _ _ _ rfl rfl ?_
  all_goals
   refine k _ _ ?_;rfl
 case gi=>
  refine hs (.gi) ⟨_,[],_⟩ _ rfl _ _ _ rfl rfl ?_
  all_goals
   refine k _ _ ?_;rfl
 case iP i e f=>
  refine hs (.iP i e f) ⟨_,[],_⟩ _ rfl _ _ _ rfl rfl ?_
  all_goals
   refine k _ _ ?_;simp only[Bb,Int.ofNat_eq_natCast];omega
 case jT i u=>
  refine hs (.jT i u) ⟨_,[],_⟩ _ rfl _ _ _ rfl rfl ?_
  all_goals
   refine k _ _ ?_;rfl
 case pD i=>
  refine hs (.pD i) ⟨_,[],_⟩ _ rfl _ _ _ rfl rfl ?_
  all_goals
   refine k _ _ ?_;rfl
 case select b ms m=>
  refine hs (.select b ms m) ⟨_,[],_⟩ _ rfl _ _ _ rfl rfl ?_
  all_goals
   refine k _ _ ?_;rfl
 case dr u=>
  refine hs (.dr u) ⟨_,[],_⟩ _ rfl _ _ _ rfl rfl ?_
  all_goals
   refine k _ _ ?_;rfl
 case abort=>
  refine hs (.abort) ⟨_,[],_⟩ _ rfl _ _ _ rfl rfl ?_
  all_goals
   refine k _ _ ?_;rfl
 case cK e f p u=>
  refine hs (.cK e f p u) ⟨_,[],_⟩ _ rfl _ _ _ rfl rfl ?_
  all_goals
   refine k _ _ ?_;simp only[Bb,Int.ofNat_eq_natCast];omega
end
theorem Vp{C:Cl}(he:Rk C):s8 (Run C):=by
 intro r fr rr mr aB h av γ Q hl k;refine he r (cS fr rr mr aB h av γ []) _ rfl fun t l e=>?_;refine⟨by show 0+(rr.map (bV M0)).length<ah;rw[List.length_map];unfold ah;exact ai hl,?_⟩;have kk:=k (h+(l-t)) (by rw[e]);refine⟨by show 9<=100;decide,?_⟩;exact kk
noncomputable def f9(mr:List Int)(m:Nat):Int:=(aq mr (mr.length-1-m)).getD 0
noncomputable def eS(mr:List Int)(m:Nat)(v:Int):List Int:=setAt mr (mr.length-1-m) v
theorem CM{α:Type}:∀(l:List α) (i:Nat) (x:α),(setAt l i x).length=l.length
 |[],_,_=>rfl
 |_::_,0,_=>rfl
 |_::l,i+1,x=>congrArg (·+1) (CM l i x)
theorem CN{α:Type}:∀(l:List α) (i j:Nat) (x:α),i<l.length->aq (setAt l i x) j=if i=j then some x else aq l j
 |[],_,_,_,h=>absurd h (Nat.not_lt_zero _)
 |_::l,0,0,x,_=>by simp[setAt,aq]
 |_::l,0,j+1,x,_=>by simp[setAt,aq]
 |_::l,i+1,0,x,_=>by simp[setAt,aq]
 |_::l,i+1,j+1,x,h=>by
  have:=CN l i j x (Nat.lt_of_succ_lt_succ h);show aq (setAt l i x) j=_;refine az (this) ?_;by_cases e:i=j<;>simp[e,aq]
theorem CP{α β:Type}(f:α->β):∀(l:List α) (i:Nat) (x:α),setAt (l.map f) i (f x)=(setAt l i x).map f
 |[],_,_=>rfl
 |_::_,0,_=>rfl
 |y::l,i+1,x=>congrArg (f y::·) (CP f l i x)
theorem aE(mr:List Int)(m:Nat)(v:Int):(eS mr m v).length=mr.length:=CM _ _ _
theorem ju{mr:List Int}{m:Nat}(x:Int)(h:m<mr.length):f9 (x::mr) m=f9 mr m:=by
 unfold f9;have:(x::mr).length-1-m=(mr.length-1-m)+1:=PT h;rw[this];rfl
theorem dH{mr:List Int}{m m':Nat}(v:Int)(h:m<mr.length)(h':m'<mr.length):f9 (eS mr m v) m'=if m=m' then v else f9 mr m':=by
 unfold f9;rw[aE];unfold eS;refine az (CN _ _ _ _ (F0 h)) ?_;by_cases e:m=m'
 ·subst e;simp
 ·rw[if_neg (F1 h h' e),if_neg e]
noncomputable def Rl(C:Cl):Prop:=∀(fr:Fr) (rr:List Row) (mr:List Int) (aB:List (Nat×Nat)) (h av:Int) (γ:Nat) (Q:KV),mr.length<=100000->
 Q (.d (.int (.ofNat mr.length))) (cS fr rr (-1::mr) aB h av γ [])->C dz [.b 4] (cS fr rr mr aB h av γ []) Q
theorem Vq{C:Cl}:Rl (Run C):=by
 intro fr rr mr aB h av γ Q hl k;refine⟨by show 0+(mr.map PyData.int).length<ah;rw[List.length_map];unfold ah;exact ai hl,?_⟩;refine aj (by show 0+((mr.map PyData.int).length+1)<=ah;rw[List.length_map];unfold ah;exact ai hl) ?_;have e:(Int.ofNat (0+((mr.map PyData.int).length+1))-Int.ofNat 1)=Int.ofNat mr.length:=by
  rw[List.length_map];simp only[Int.ofNat_eq_natCast];omega
 have kk:Q (.d (.int (Int.ofNat (0+((mr.map PyData.int).length+1))-Int.ofNat 1))) (cS fr rr (-1::mr) aB h av γ []):=by rw[e];exact k
 exact kk
noncomputable def Rm(C:Cl):Prop:=∀(fr:Fr) (rr:List Row) (mr:List Int) (aB:List (Nat×Nat)) (h av:Int) (γ:Nat) (m:Nat) (hh:Int) (Q:KV),rr.length<=100000->mr.length<=100000->m<mr.length->
 Q (.d .none) (cS fr rr (eS mr m rr.length) aB hh av γ [])->C ed [.b 4,.d (.int (.ofNat m)),.d (.int hh)] (cS fr rr mr aB h av γ []) Q
theorem Vr{C:Cl}:Rm (Run C):=by
 intro fr rr mr aB h av γ m hh Q hl xw hm k;refine aj (by show 0+(rr.map (bV M0)).length<=ah;rw[List.length_map];unfold ah;exact ai hl) ?_;refine⟨⟨by rw[List.length_map];exact hm,by rw[List.length_map];unfold ah;omega⟩,?_⟩;refine⟨by show 9<=100;decide,?_⟩;have e:setAt (mr.map PyData.int) ((mr.map PyData.int).length-1-m) (.int ((0+(rr.map (bV M0)).length:Nat):Int))=(eS mr m rr.length).map PyData.int:=by
  rw[List.length_map,List.length_map,Nat.zero_add];exact CP _ _ _ _
 have kk:Q (.d .none) ⟨[some (mO fr.ns fr.sp fr.line fr.left),some (GG fr.body),some nE,some rS,some (Ff hh av),some (.list [] (rr.map (bV M0))),some (.list [] (setAt (mr.map PyData.int) ((mr.map PyData.int).length-1-m) (.int ((0+(rr.map (bV M0)).length:Nat):Int)))),some (.list (aB.map tS) []),
  none,none,none,none,none,none,none,none,some qc,some oO,some pE,some (.dict [])],[],γ⟩:=by rw[e];exact k
 exact kk
noncomputable def Pt(a:Int)(s:Str):D:=.tuple [.str iE,.int (.ofNat 0),.int a,.str s]
noncomputable def Pu(k:Int):D:=.tuple [.str pZ,.int (.ofNat 0),.int k]
noncomputable def Aq(C:Cl):Prop:=∀(a:Int) (s:Str) (fr:Fr) (rr:List Row) (mr:List Int) (aB:List (Nat×Nat)) (h av:Int) (γ:Nat) (Q:KV),rr.length<=100000->
 (∀h',h'=h+1->Q (.d .none) (cS fr (.obj a s::rr) mr aB h' av γ []))->C sQ [.b 4,.d (Pt a s)] (cS fr rr mr aB h av γ []) Q
theorem Li{C:Cl}(hl:s8 C):Aq (Run C):=by
 intro a s fr rr mr aB h av γ Q hr k;refine hl (.obj a s) fr rr mr aB h av γ _ hr fun h' e=>?_;exact k h' e
noncomputable def Ar(C:Cl):Prop:=∀(a:Int) (fr:Fr) (rr:List Row) (mr:List Int) (aB:List (Nat×Nat)) (h av:Int) (γ:Nat) (Q:KV),rr.length<=100000->
 (∀h',h'=h+1->Q (.d .none) (cS fr (.const a::rr) mr aB h' av γ []))->C sP [.b 4,.d (Pu a)] (cS fr rr mr aB h av γ []) Q
theorem Lj{C:Cl}(hl:s8 C):Ar (Run C):=by
 intro a fr rr mr aB h av γ Q hr k;refine hl (.const a) fr rr mr aB h av γ _ hr fun h' e=>?_;exact k h' e
noncomputable def s9(C:Cl):Prop:=∀(fr:Fr) (rr:List Row) (mr:List Int) (aB:List (Nat×Nat)) (h av:Int) (γ:Nat) (Q:KV),rr.length<=100000->
 (∀h',h'=h+1->Q (.d .none) (cS fr (.place::rr) mr aB h' av γ []))->C oj [.b 4,.d tR] (cS fr rr mr aB h av γ []) Q
theorem Fg{C:Cl}(hl:s8 C):s9 (Run C):=by
 intro fr rr mr aB h av γ Q hr k;refine hl .place fr rr mr aB h av γ _ hr fun h' e=>?_;exact k h' e
noncomputable def GH(C:Cl):Prop:=∀(a:Int) (s:Str) (fr:Fr) (rr:List Row) (mr:List Int) (aB:List (Nat×Nat)) (h av:Int) (γ:Nat) (Q:KV),rr.length<=100000->
 (∀h',h'=h+1->Q (.d .none) (cS fr (.obj a s::rr) mr aB h' av γ []))->C bY [.b 4,.d (Pt a s)] (cS fr rr mr aB h av γ []) Q
theorem Rn{C:Cl}(hl:Aq C):GH (Run C):=by
 intro a s fr rr mr aB h av γ Q hr k;refine hl a s fr rr mr aB h av γ _ hr fun h' e=>?_;exact k h' e
noncomputable def GI(C:Cl):Prop:=∀(a:Int) (fr:Fr) (rr:List Row) (mr:List Int) (aB:List (Nat×Nat)) (h av:Int) (γ:Nat) (Q:KV),rr.length<=100000->
 (∀h',h'=h+1->Q (.d .none) (cS fr (.const a::rr) mr aB h' av γ []))->C bY [.b 4,.d (Pu a)] (cS fr rr mr aB h av γ []) Q
theorem Ro{C:Cl}(hl:Ar C):GI (Run C):=by
 intro a fr rr mr aB h av γ Q hr k;refine hl a fr rr mr aB h av γ _ hr fun h' e=>?_;exact k h' e
noncomputable def dD:Th->Row
 |.obj=>.obj (.ofNat 1) Ba
 |.lit k=>.const k
noncomputable def CQ(C:Cl):Prop:=∀(t:Th) (fr:Fr) (rr:List Row) (mr:List Int) (aB:List (Nat×Nat)) (h av:Int) (γ:Nat) (Q:KV),rr.length<=100000->
 (∀h',h'=h+1->Q (.d .none) (cS fr (dD t::rr) mr aB h' av γ []))->C bY [.b 4,.d (oH t)] (cS fr rr mr aB h av γ []) Q
theorem Lk{C:Cl}(ho:GH C)(hl:GI C):CQ C
 |.obj=>ho (.ofNat 1) Ba
 |.lit k=>hl k
noncomputable def Fh(C:Cl):Prop:=∀(fr:Fr) (rr:List Row) (mr:List Int) (aB:List (Nat×Nat)) (h av:Int) (γ:Nat) (Q:KV),rr.length<=100000->
 (∀h',h'=h+1->Q (.d .none) (cS fr (.place::rr) mr aB h' av γ []))->C rj [.b 4,.d tR] (cS fr rr mr aB h av γ []) Q
theorem NM{C:Cl}(hl:s9 C):Fh (Run C):=by
 intro fr rr mr aB h av γ Q hr k;refine hl fr rr mr aB h av γ _ hr fun h' e=>?_;exact k h' e
noncomputable def pF(C:Cl):Prop:=∀(fr:Fr) (rr:List Row) (mr:List Int) (aB:List (Nat×Nat)) (h av:Int) (γ:Nat) (Q:KV),rr.length<=99990->
 (∀h',h'=h+1->Q (.d .none) (cS fr (.target::.place::rr) mr aB h' av γ []))->C l7 [.b 4,.d tR] (cS fr rr mr aB h av γ []) Q
theorem Ll{C:Cl}(hp:Fh C)(hl:s8 C):pF (Run C):=by
 intro fr rr mr aB h av γ Q hr k;refine hp fr rr mr aB h av γ _ (by omega) fun h' e=>?_;refine hl .target fr (.place::rr) mr aB h' av γ _ (by rw[List.length_cons];exact ai hr) fun h2 e2=>?_;exact k h2 (by rw[e2,e];exact Int.add_zero _)
noncomputable def bA:Option Th->Nat
 |none=>0
 |some _=>1
noncomputable def cg:Option Th->List Row
 |none=>[]
 |some t=>[dD t]
noncomputable def uK(C:Cl):Prop:=∀(f:Option Th) (fr:Fr) (rr:List Row) (mr:List Int) (aB:List (Nat×Nat)) (h av:Int) (γ:Nat) (Q:KV),rr.length<=99990->
 (∀h',h'=h+bA f->Q (.d (.int (.ofNat (bA f)))) (cS fr (cg f++rr) mr aB h' av γ []))->C iF [.b 4,.d (qB f)] (cS fr rr mr aB h av γ []) Q
theorem Lm{C:Cl}(hv:CQ C):uK (Run C):=by
 intro f fr rr mr aB h av γ Q hr k;rcases f with _|_|a
 ·conv=>whnf
  exact k h (Int.add_zero _).symm
 ·conv=>whnf
  refine hv .obj fr rr mr aB h av γ _ (by omega) fun h' e=>?_;exact k h' e
 ·conv=>whnf
  refine hv (.lit a) fr rr mr aB h av γ _ (by omega) fun h' e=>?_;exact k h' e
noncomputable def ta:Option Th->List Row
 |some t=>[.wy,dD t]
 |none=>[.mQ,.target,.place]
noncomputable def d7:List (Option Th)->List Row
 |[]=>[]
 |a::l=>d7 l++ta a
theorem CR(a:Option Th):(ta a).length<=3:=by rcases a with _|_<;>simp[ta]
theorem km:∀(l:List (Option Th)),(d7 l).length<=3*l.length
 |[]=>Nat.le_refl _
 |a::l=>by
  have:=km l;have:=CR a;unfold d7;refine az (List.length_append) ?_;refine az (List.length_cons) ?_;omega
noncomputable def As:List T:=[.fL (.cmp .eq (.var fU) (.c (.str xF))) [.expr (.call bY [(.var af),(.var bh)]),.expr (.call cB [(.var af),(.tup [(.c (.str fV))])])] [.expr (.call l7 [(.var af),(.var bh)]),.expr (.call cB [(.var af),(.tup [(.c (.str dc))])])]]
noncomputable def wA(x:D)(rest:ak):ak:=(af,.b 4)::(m9,.d x)::rest
noncomputable def uL(rest:ak):Prop:=rest=[]\/∃a b,rest=[(fU,.d a),(bh,.d b)]
noncomputable def rT(C:Cl):Prop:=∀(as:List (Option Th)) (fr:Fr) (rr:List Row) (mr:List Int) (aB:List (Nat×Nat)) (h av:Int) (γ:Nat) (Q:KV),as.length<=2->rr.length<=99900->
 (∀h',h'=h+as.length->Q (.d .none) (cS fr (d7 as++rr) mr aB h' av γ []))->C n9 [.b 4,.d (.list (as.map gU))] (cS fr rr mr aB h av γ []) Q
theorem Lo{C:Cl}(hv:CQ C)(ht:pF C)(hl:s8 C){x:D}{rest:ak}(d8:uL rest){a:Option Th}{fr:Fr}{rr:List Row}{mr:List Int}{aB:List (Nat×Nat)}{h av:Int}{γ:Nat}{R:ak->St->Prop}{Q:KF}(hr:rr.length<=99980)
  (k:∀h' aG,uL aG->h'=h+1->R (wA x aG) (cS fr (ta a++rr) mr aB h' av γ [])):
  bind1 [fU,bh] (gU a) (wA x rest) fun d9=>gz (ex G C 59) As d9 (cS fr rr mr aB h av γ []) (wo R Q):=by
 rcases d8 with rfl|⟨a0,b0,rfl⟩
 all_goals
  induction a using Option.casesOn with
  |none=>
   refine ht fr rr mr aB h av γ _ (by omega) fun h' e=>?_;refine hl .mQ fr (.target::.place::rr) mr aB h' av γ _ (by rw[List.length_cons,List.length_cons];exact ai hr) fun h2 e2=>?_;exact k h2 [(fU,.d (.str iX)),(bh,.d tR)] (.inr ⟨_,_,rfl⟩) (by rw[e2,e];exact Int.add_zero _)
  |some t=>
   refine hv t fr rr mr aB h av γ _ (by omega) fun h' e=>?_;refine hl .wy fr (dD t::rr) mr aB h' av γ _ (by rw[List.length_cons];exact ai hr) fun h2 e2=>?_;exact k h2 [(fU,.d (.str xF)),(bh,.d (oH t))] (.inr ⟨_,_,rfl⟩) (by rw[e2,e];exact Int.add_zero _)
theorem Lp{C:Cl}(hv:CQ C)(ht:pF C)(hl:s8 C){x:D}{fr:Fr}{mr:List Int}{aB:List (Nat×Nat)}{av:Int}{γ:Nat}{Q:KF}:∀(as:List (Option Th)) (rest:ak) (rr:List Row) (h:Int),uL rest->rr.length+3*as.length<=99950->
  (∀h' aG,uL aG->h'=h+as.length->Q .next (wA x aG) (cS fr (d7 as++rr) mr aB h' av γ []))->
  forL (ex G C 59) [fU,bh] As none (as.map gU) (wA x rest) (cS fr rr mr aB h av γ []) Q:=by
 intro l0
 induction l0 with
 |nil=>
  intro rest rr h hr hb k;exact k h rest hr (Int.add_zero _).symm
 |cons a as ih=>
  intro rest rr h hr hb k;rw[List.length_cons]at hb;have:=CR a;refine az (List.map_cons) ?_;refine az (dm) ?_;refine Lo hv ht hl hr (ai hb) fun h' aG jc e=>?_;refine ih aG (ta a++rr) h' jc (by rw[List.length_append];exact aZ hb this) fun h2 gV um e2=>?_;have:=k h2 gV um (by rw[e2,e,List.length_cons];omega);rw[show d7 (a::as)++rr=d7 as++(ta a++rr)from List.append_assoc _ _ _]at this;exact this
theorem Il{C:Cl}(hv:CQ C)(ht:pF C)(hl:s8 C):rT (Run C):=by
 intro as fr rr mr aB h av γ Q h2 hr k;show gz (ex G C 60) [.gN [fU,bh] (.var m9) As] (wA (.list (as.map gU)) []) (cS fr rr mr aB h av γ []) (fQ Q);refine js fun F hF=>?_;refine aj (by rw[List.length_map];unfold ah;omega) ?_;refine hF _ _ _ ?_;refine Lp hv ht hl as [] rr h (.inl rfl) (aZ (qe 3 h2) hr) fun h' aG jc e=>?_;exact k h' e
noncomputable def aw(c:eR):List Row:=d7 c.args++(cg c.aP++[dD c.pre])
noncomputable def tc(C:Cl):Prop:=∀(l:Int) (c:eR) (fr:Fr) (rr:List Row) (mr:List Int) (aB:List (Nat×Nat)) (h av:Int) (γ:Nat) (Q:KV),c.args.length<=2->rr.length<=99800->
 (∀h',h'=h+1+bA c.aP+c.args.length->Q (.d (.tuple [.int (.ofNat (bA c.aP)),.int (.ofNat c.args.length)])) (cS fr (aw c++rr) mr aB h' av γ []))->C oi [.b 4,.d (j6 l c)] (cS fr rr mr aB h av γ []) Q
theorem CS(f:Option Th):(cg f).length<=1:=by rcases f with _|_<;>simp[cg]
theorem Fi{C:Cl}(hv:CQ C)(hf:uK C)(ha:rT C):tc (Run C):=by
 intro l c fr rr mr aB h av γ Q h2 hr k;have:=CS c.aP;refine hv c.pre fr rr mr aB h av γ _ (by omega) fun h' e=>?_;refine hf c.aP fr (dD c.pre::rr) mr aB h' av γ _ (by rw[List.length_cons];exact ai hr) fun yA e2=>?_;refine ha c.args fr (cg c.aP++dD c.pre::rr) mr aB yA av γ _ h2 (by rw[List.length_append,List.length_cons];exact aZ hr this) fun h3 e3=>?_;refine aj (by rw[List.length_map];unfold ah;omega) ?_;have kk:=k h3 (by rw[e3,e2,e]);rw[show aw c++rr=d7 c.args++(cg c.aP++dD c.pre::rr) by unfold aw;simp]at kk;have e4:(.ofNat (c.args.map gU).length:Int)=.ofNat c.args.length:=by rw[List.length_map]
 rw[<-e4]at kk;exact kk
noncomputable def uq(d:D):Prop:=d.showable=true/\d.hasDict=false/\d.depth<=10/\d.shown.length<=5000
noncomputable def aA(d:D):Prop:=d.showable=true/\d.hasDict=false/\d.depth<=20/\d.shown.length<=100000
noncomputable def kn(s:Str):Prop:=uq (.str s)/\s.length<=5000
theorem aA.b{d:D}(h:aA d):d.showable=true/\d.hasDict=false/\d.depth<=20/\d.shown.length<=ah:=⟨h.1,h.2.1,h.2.2.1,Nat.le_trans h.2.2.2 (by unfold ah;omega)⟩
theorem CT:∀(ts:List Str) (k:Nat) (acc:Str),(∀t∈ts,t.length<=5000)->(textFrom k acc ts).length<=acc.length+5002*ts.length:=by
 intro l0
 induction l0 with
 |nil=>
  intro _ _ _;exact Nat.le_refl _
 |cons t r ih=>
  intro k acc h;have h1:=ih (k+1) (acc++(if k>0 then ", " else "" :String)++t) (fun x hx=>h x (List.mem_cons_of_mem _ hx));have h2:=h t List.mem_cons_self;have h3:((if k>0 then ", " else "" :String):Str).length<=2:=by
   split<;>decide
  rw[strLen_append,strLen_append]at h1;refine az (List.length_cons) ?_;have:textFrom k acc (t::r)=textFrom (k+1) (acc++(if k>0 then ", " else "" :String)++t) r:=rfl;refine az (this) ?_;exact jG h1 h2 h3
theorem Rp:∀(l:List D),(∀d∈l,uq d)->PyData.showableAll l=true/\PyData.hasDictAll l=false/\PyData.depthAll l<=10/\(∀t∈PyData.shownAll l,t.length<=5000)/\(PyData.shownAll l).length=l.length:=by
 intro l0
 induction l0 with
 |nil=>
  intro _;simp[PyData.showableAll,PyData.hasDictAll,PyData.depthAll,PyData.shownAll]
 |cons d l ih=>
  intro h;refine bc fun bf=>?_;obtain⟨a,b,c,e,f⟩:=ih fun x hx=>h x (List.mem_cons_of_mem _ hx);obtain⟨a',b',c',e'⟩:=h d List.mem_cons_self;refine bf ?_;simp only[PyData.showableAll,PyData.hasDictAll,PyData.depthAll,PyData.shownAll,a,a',b,b',Bool.and_self,Bool.or_self,List.length_cons,f,true_and];refine⟨by omega,?_,trivial⟩;intro t ht;rcases List.mem_cons.mp ht with rfl|ht
  ·exact e'
  ·exact e t ht
theorem yM{l:List D}(hl:l.length<=10)(h:∀d∈l,uq d):aA (.list l):=by
 refine bc fun bf=>?_;obtain⟨a,b,c,e,f⟩:=Rp l h;refine bf ?_;refine⟨by simp only[PyData.showable];exact a,by simp only[PyData.hasDict];exact b,by simp only[PyData.depth];exact ai c,?_⟩;simp only[PyData.shown];have:=CT (PyData.shownAll l) 0 "[" e;unfold listText;rw[strLen_append];have h1:(("[" :String):Str).length=1:=by decide
 have h2:(("]" :String):Str).length=1:=by decide
 omega
theorem mR{l:List Str}(hl:l.length<=10)(h:∀s∈l,kn s):aA (.list (l.map PyData.str)):=
 yM (by rw[List.length_map];exact hl) fun d hd=>by
  obtain⟨s,hs,rfl⟩:=List.mem_map.mp hd;exact(h s hs).1
noncomputable def wB:List Th:=[.obj,.lit (.ofNat 0),.lit (.ofNat 1),.lit (.ofNat 2),.lit (.ofNat 3),.lit (.ofNat 4),.lit (.ofNat 5),.lit (.ofNat 6),.lit (.ofNat 7),.lit (.ofNat 8)]
theorem mf{t:Th}(h:gI t):t∈wB:=by
 induction t using Th.casesOn with
 |obj=>simp[wB]
 |lit k=>
  obtain⟨h0,h9⟩:=h k rfl;rcases nine h0 h9 with rfl|rfl|rfl|rfl|rfl|rfl|rfl|rfl|rfl<;>simp[wB]
noncomputable def bD:Th->Str
 |.obj=>kh++(PyData.tuple [.int (.ofNat 1),.str Ba]).shown
 |.lit k=>iO++(PyData.tuple [.int k]).shown
theorem Im:∀t∈wB,kn (bD t):=by unfold kn uq;decide+kernel
theorem CU{l:Int}(h:l.natAbs<=100000):(PyData.int l).showable=true/\((toString l:String):Str).length<=8:=by
 refine⟨?_,?_⟩
 ·simp only[PyData.showable,decide_eq_true_eq];by_cases h0:l.natAbs=0
  ·rw[h0];decide
  ·rw[Nat.log2_lt h0];exact Nat.lt_of_le_of_lt h (Nat.lt_of_lt_of_le (by decide:100000<2 ^ 17) (Nat.pow_le_pow_right (by decide) (by decide)))
 ·have:=int_text_length_le10 (a:=l) (k:=6) (by decide) (by omega);rw[ofString_length];omega
theorem yN{l:Int}(h:Ln l):aA (.tuple [.int l]):=by
 obtain⟨a,b⟩:=CU (l:=l) (by have:=h.1;have:=h.2;omega);refine⟨by simp only[PyData.showable,PyData.showableAll,Bool.and_true];exact a,by simp[PyData.hasDict,PyData.hasDictAll],by simp[PyData.depth,PyData.depthAll],?_⟩;simp only[PyData.shown,PyData.shownAll];unfold tupleText;rw[strLen_append,strLen_append];have h1:(("(" :String):Str).length=1:=by decide
 have h2:(Str.join (", " :String) [((toString l:String):Str)]).length=((toString l:String):Str).length:=rfl;have h3:((if[((toString l:String):Str)].length==1 then ",)" else ")" :String):Str).length=2:=by
  show(((",)" :String)):Str).length=2;decide
 exact uB b (il h1) (il h2) (il h3)
noncomputable def aO(w:Str)(parts:List D)(tk:List Str):Str:=(((w++aQ)++(PyData.tuple parts).shown)++aQ)++(PyData.list (tk.map PyData.str)).shown
noncomputable def Au(t:Th):Str:=aO fV [] [bD t]
noncomputable def lE:Str:=nj++(PyData.tuple [.int (.ofNat 0),.str SE]).shown
noncomputable def ik:Str:=aO da [] [lE]
noncomputable def Av:Str:=aO dc [] [ik]
noncomputable def Aw(a:Int):Str:=kh++(PyData.tuple [.int a,.str Ba]).shown
theorem Fj:∀t∈wB,kn (Au t):=by unfold kn uq;decide+kernel
theorem tU:kn lE:=by unfold kn uq;decide+kernel
theorem rU:kn ik:=by unfold kn uq;decide+kernel
theorem Io:kn Av:=by unfold kn uq;decide+kernel
theorem Ip:kn (Aw (.ofNat 0)):=by unfold kn uq;decide+kernel
theorem ek{t:Th}(h:gI t):kn (bD t):=Im t (mf h)
theorem Iq{t:Th}(h:gI t):kn (Au t):=Fj t (mf h)
structure Bk where
 told:List Str
 asked:Int
noncomputable def Bk.tell(b:Bk)(x:Str):Bk:=⟨x::b.told,b.asked⟩
noncomputable def Bk.ask(b:Bk):Bk:=⟨b.told,b.asked+Int.ofNat 1⟩
noncomputable def iA(gG a many:Int):Int:=Int.fmod (Int.fdiv gG (Int.ofNat 3 ^ (Int.fmod a (Int.ofNat 12)).toNat)) many
theorem GJ{gG a many:Int}(h:0<many):0<=iA gG a many/\iA gG a many<many:=⟨Int.fmod_nonneg_of_pos _ h,Int.fmod_lt_of_pos _ h⟩
structure PF where
 fr:Fr
 rr:List Row
 mr:List Int
 h:Int
 av:Int
 R:List D
 gG:Int
noncomputable def Pw(s:Nat)(a gG:Int):aL:=.dict [(qn,.b s),(q8,.d (.int a)),(g8,.d (.int gG))]
noncomputable def Lq(R:List D):aL:=.inst 3 [(bT,.d (.list R)),(n6,.b 1),(lO,.d (.list [])),(sD,.d .none),(m7,.d (.list []))]
noncomputable def eU(pf:PF)(b0 b1:Bk)(bb bC:Option aL)(γ:Nat)(τ:List aL):St:=
 ⟨[some (mO pf.fr.ns pf.fr.sp pf.fr.line pf.fr.left),some (GG pf.fr.body),some nE,some rS,some (Ff pf.h pf.av),some (.list [] (pf.rr.map (bV M0))),some (.list [] (pf.mr.map PyData.int)),some (.list [] []),
  none,some (Lq pf.R),some (Pw 12 b0.asked pf.gG),some (Pw 13 b1.asked pf.gG),some (.list [] (b0.told.map PyData.str)),some (.list [] (b1.told.map PyData.str)),bb,bC,some qc,some oO,some pE,some (.dict [])],τ,γ⟩
noncomputable def MarkC(C:Cl):Prop:=∀(pf:PF) (b0 b1:Bk) (bb bC:Option aL) (γ:Nat) (x:Str) (Q:KV),
 (b0.told.length<=100000->Q (.d (.str x)) (eU pf (b0.tell x) b1 bb bC γ [])->C aU [.b 10,.d (.str x)] (eU pf b0 b1 bb bC γ []) Q)/\
 (b1.told.length<=100000->Q (.d (.str x)) (eU pf b0 (b1.tell x) bb bC γ [])->C aU [.b 11,.d (.str x)] (eU pf b0 b1 bb bC γ []) Q)
theorem eY{C:Cl}:MarkC (Run C):=by
 intro pf b0 b1 bb bC γ x Q;constructor
 ·intro hl k;refine⟨by show 0+(b0.told.map PyData.str).length<ah;rw[List.length_map];unfold ah;exact ai hl,?_⟩;exact k
 ·intro hl k;refine⟨by show 0+(b1.told.map PyData.str).length<ah;rw[List.length_map];unfold ah;exact ai hl,?_⟩;exact k
theorem Vs{k:Int}(h0:0<=k)(h:k<12):0<Int.ofNat 3 ^ k.toNat/\(Int.ofNat 3 ^ k.toNat).natAbs<=ah:=by
 obtain⟨n,rfl⟩:=Int.eq_ofNat_of_zero_le h0;have h:n<12:=by omega
 show 0<Int.ofNat 3 ^ n/\(Int.ofNat 3 ^ n).natAbs<=ah;have:∀n,n<12->0<Int.ofNat 3 ^ n/\(Int.ofNat 3 ^ n).natAbs<=ah:=by decide+kernel
 exact this n h
noncomputable def mh(C:Cl):Prop:=∀(pf:PF) (b0 b1:Bk) (bb bC:Option aL) (γ:Nat) (many:Int) (Q:KV),0<many->pf.gG.natAbs<=ah->
 (Q (.d (.int (iA pf.gG b0.ask.asked many))) (eU pf b0.ask b1 bb bC γ [])->C gh [.b 10,.d (.int many)] (eU pf b0 b1 bb bC γ []) Q)/\
 (Q (.d (.int (iA pf.gG b1.ask.asked many))) (eU pf b0 b1.ask bb bC γ [])->C gh [.b 11,.d (.int many)] (eU pf b0 b1 bb bC γ []) Q)
theorem rV{C:Cl}:mh (Run C):=by
 intro pf b0 b1 bb bC γ many Q hm ha;have WD:∀a:Int,0<=Int.fmod a (Int.ofNat 12)/\Int.fmod a (Int.ofNat 12)<12:=fun a=>⟨Int.fmod_nonneg_of_pos _ (by decide),Int.fmod_lt_of_pos _ (by decide)⟩;constructor
 ·intro k;have Fm:=WD (b0.asked+Int.ofNat 1);have z0:=Fm.1;have z1:=Fm.2;clear Fm;refine⟨by show 3<=100;decide,?_⟩;refine⟨by decide,?_⟩;refine⟨⟨rfl,z0,z1⟩,?_⟩;have pq:=Vs z0 z1;have p:=pq.1;have q:=pq.2;clear pq;refine⟨⟨p,ha,q⟩,?_⟩;refine⟨hm,?_⟩;exact k
 ·intro k;have Fm:=WD (b1.asked+Int.ofNat 1);have z0:=Fm.1;have z1:=Fm.2;clear Fm;refine⟨by show 3<=100;decide,?_⟩;refine⟨by decide,?_⟩;refine⟨⟨rfl,z0,z1⟩,?_⟩;have pq:=Vs z0 z1;have p:=pq.1;have q:=pq.2;clear pq;refine⟨⟨p,ha,q⟩,?_⟩;refine⟨hm,?_⟩;exact k
section
set_option genCtorIdx false
inductive k7 where
 |N (st:List Str)
 |O (ps:List Str) (ol:List D)
noncomputable def k7.bb:k7->Option aL
 |.N st=>some (.list [] (st.map PyData.str))
 |.O ps _=>some (.list (ps.map (fun s=>ag.d (.str s))++[.b 15]) [])
noncomputable def k7.bC:k7->Option aL
 |.N _=>none
 |.O _ ol=>some (.list [] ol)
noncomputable def bS(C:Cl)(pf:PF)(row:D)(sk:k7)(b:Bk)(goal:D)(xB:k7)(b':Bk):Prop:=∀(b1:Bk) (γ:Nat) (Q:KV),
 (∀gE τ,Q (.d goal) (eU pf b' b1 xB.bb xB.bC gE τ))->C sR [.b 10,.d row,.b 14] (eU pf b b1 sk.bb sk.bC γ []) Q
theorem Lr{C:Cl}{pf:PF}{x:Int}{sk:k7}{b:Bk}:bS (Run C) pf (.tuple [.str jL,.int x]) sk b (.int x) sk b:=by
 intro b1 γ Q k;exact k γ []
theorem pT{m:Nat}{tk rest:List Str}(h:m=tk.length):(List.take m ((tk++rest).map PyData.str)).reverse=tk.reverse.map PyData.str:=by
 rw[h,List.map_append,List.take_left' (by rw[List.length_map]),List.map_reverse]
theorem kJ{m:Nat}{tk rest:List Str}(h:m=tk.length):List.drop m ((tk++rest).map PyData.str)=rest.map PyData.str:=by
 rw[h,List.map_append,List.drop_left' (by rw[List.length_map])]
theorem pU{w:Str}{p t:D}(h:(w++aQ).length<=100)(hp:aA p)(ht:aA t):(w++aQ).length+p.shown.length<=ah/\((w++aQ)++p.shown).length+aQ.length<=ah/\(((w++aQ)++p.shown)++aQ).length+t.shown.length<=ah:=by
 have h1:=hp.2.2.2;have h2:=ht.2.2.2;have h3:aQ.length=1:=by decide
 rw[strLen_append (w++aQ++p.shown),strLen_append (w++aQ)];unfold ah;exact⟨aZ h h1,jG h h1 (il h3),uB h h1 h2 (il h3)⟩
noncomputable def CV:Option Bool->Nat
 |none=>0
 |some _=>1
noncomputable def tryGoal(v m:Int):D:=if v=Int.ofNat 0 then .int m else .none
theorem yO{v m:Int}(h:v=Int.ofNat 0):tryGoal v m=.int m:=if_pos h
theorem wC{v m:Int}(h:¬v=Int.ofNat 0):tryGoal v m=.none:=if_neg h
theorem Fn{C:Cl}(hm:MarkC C){pf:PF}{tk rest:List Str}{b:Bk}(hb:b.told.length<=100000)(jH:tk.length=1)(kI:(tk++rest).length<=100000)(hs:aA (.list (tk.reverse.map PyData.str)))(hp:aA (.tuple [])):
  bS (Run C) pf (.tuple [.str da,tR]) (.N (tk++rest)) b .none (.N (aO da [] tk.reverse::rest)) (b.tell (aO da [] tk.reverse)):=by
 intro b1 γ Q k;obtain⟨l1,l2,l3⟩:=pU (w:=da) (by decide+kernel) hp hs;have q1:1<=((tk++rest).map PyData.str).length:=by rw[List.length_map,List.length_append];exact ai (xq jH)
 have q2:((tk++rest).map PyData.str).length<=ah:=by rw[List.length_map];unfold ah;omega
 refine⟨⟨q1,q2⟩,?_⟩;rw[pT]
 rotate_left
 ·exact jH.symm
 refine⟨⟨q1,q2⟩,?_⟩;rw[kJ]
 rotate_left
 ·exact jH.symm
 refine⟨by decide+kernel,?_⟩;refine⟨hp.b,?_⟩;refine⟨l1,?_⟩;refine⟨l2,?_⟩;refine⟨hs.b,?_⟩;refine⟨l3,?_⟩;refine(hm pf b b1 (k7.N rest).bb none γ (aO da [] tk.reverse) _).1 hb ?_;refine⟨by show 0+(rest.map PyData.str).length<ah;rw[List.length_map];rw[List.length_append]at kI;unfold ah;exact ai kI,?_⟩;exact k γ _
theorem Fo{C:Cl}(hm:MarkC C){pf:PF}{tk rest:List Str}{b:Bk}(hb:b.told.length<=100000)(jH:tk.length=1)(kI:(tk++rest).length<=100000)(hs:aA (.list (tk.reverse.map PyData.str)))(hp:aA (.tuple [])):
  bS (Run C) pf (.tuple [.str fV]) (.N (tk++rest)) b .none (.N (aO fV [] tk.reverse::rest)) (b.tell (aO fV [] tk.reverse)):=by
 intro b1 γ Q k;obtain⟨l1,l2,l3⟩:=pU (w:=fV) (by decide+kernel) hp hs;have q1:1<=((tk++rest).map PyData.str).length:=by rw[List.length_map,List.length_append];exact ai (xq jH)
 have q2:((tk++rest).map PyData.str).length<=ah:=by rw[List.length_map];unfold ah;omega
 refine⟨⟨q1,q2⟩,?_⟩;rw[pT]
 rotate_left
 ·exact jH.symm
 refine⟨⟨q1,q2⟩,?_⟩;rw[kJ]
 rotate_left
 ·exact jH.symm
 refine⟨by decide,?_⟩;refine⟨⟨Nat.le_of_ble_eq_true rfl,Nat.le_of_ble_eq_true rfl,Nat.le_of_ble_eq_true rfl⟩,?_⟩;refine⟨by decide+kernel,?_⟩;refine⟨hp.b,?_⟩;refine⟨l1,?_⟩;refine⟨l2,?_⟩;refine⟨hs.b,?_⟩;refine⟨l3,?_⟩;refine(hm pf b b1 (k7.N rest).bb none γ (aO fV [] tk.reverse) _).1 hb ?_;refine⟨by show 0+(rest.map PyData.str).length<ah;rw[List.length_map];rw[List.length_append]at kI;unfold ah;exact ai kI,?_⟩;exact k γ _
theorem ye{C:Cl}(hm:MarkC C){pf:PF}{tk rest:List Str}{b:Bk}(hb:b.told.length<=100000)(jH:tk.length=1)(kI:(tk++rest).length<=100000)(hs:aA (.list (tk.reverse.map PyData.str)))(hp:aA (.tuple [])):
  bS (Run C) pf (.tuple [.str dc]) (.N (tk++rest)) b .none (.N (aO dc [] tk.reverse::rest)) (b.tell (aO dc [] tk.reverse)):=by
 intro b1 γ Q k;obtain⟨l1,l2,l3⟩:=pU (w:=dc) (by decide+kernel) hp hs;have q1:1<=((tk++rest).map PyData.str).length:=by rw[List.length_map,List.length_append];exact ai (xq jH)
 have q2:((tk++rest).map PyData.str).length<=ah:=by rw[List.length_map];unfold ah;omega
 refine⟨⟨q1,q2⟩,?_⟩;rw[pT]
 rotate_left
 ·exact jH.symm
 refine⟨⟨q1,q2⟩,?_⟩;rw[kJ]
 rotate_left
 ·exact jH.symm
 refine⟨by decide,?_⟩;refine⟨⟨Nat.le_of_ble_eq_true rfl,Nat.le_of_ble_eq_true rfl,Nat.le_of_ble_eq_true rfl⟩,?_⟩;refine⟨by decide+kernel,?_⟩;refine⟨hp.b,?_⟩;refine⟨l1,?_⟩;refine⟨l2,?_⟩;refine⟨hs.b,?_⟩;refine⟨l3,?_⟩;refine(hm pf b b1 (k7.N rest).bb none γ (aO dc [] tk.reverse) _).1 hb ?_;refine⟨by show 0+(rest.map PyData.str).length<ah;rw[List.length_map];rw[List.length_append]at kI;unfold ah;exact ai kI,?_⟩;exact k γ _
theorem Ls{C:Cl}(hm:MarkC C){pf:PF}{l:Int}{tk rest:List Str}{b:Bk}(hb:b.told.length<=100000)(jH:tk.length=0)(kI:(tk++rest).length<=100000)(hs:aA (.list (tk.reverse.map PyData.str)))(hp:aA (.tuple [.int l])):
  bS (Run C) pf (.tuple [.str m8,.int l]) (.N (tk++rest)) b .none (.N rest) (b.tell (aO m8 [.int l] tk.reverse)):=by
 intro b1 γ Q k;obtain⟨l1,l2,l3⟩:=pU (w:=m8) (by decide+kernel) hp hs;have q1:0<=((tk++rest).map PyData.str).length:=by rw[List.length_map,List.length_append];omega
 have q2:((tk++rest).map PyData.str).length<=ah:=by rw[List.length_map];unfold ah;omega
 refine⟨⟨q1,q2⟩,?_⟩;rw[pT]
 rotate_left
 ·exact jH.symm
 refine⟨⟨q1,q2⟩,?_⟩;rw[kJ]
 rotate_left
 ·exact jH.symm
 refine⟨by decide,?_⟩;refine⟨⟨Nat.le_of_ble_eq_true rfl,Nat.le_of_ble_eq_true rfl,Nat.le_of_ble_eq_true rfl⟩,?_⟩;refine⟨by decide+kernel,?_⟩;refine⟨hp.b,?_⟩;refine⟨l1,?_⟩;refine⟨l2,?_⟩;refine⟨hs.b,?_⟩;refine⟨l3,?_⟩;refine(hm pf b b1 (k7.N rest).bb none γ (aO m8 [.int l] tk.reverse) _).1 hb ?_;exact k γ _
theorem Ir{C:Cl}(hm:MarkC C){pf:PF}{tk rest:List Str}{b:Bk}(hb:b.told.length<=100000)(jH:tk.length=0)(kI:(tk++rest).length<=100000)(hs:aA (.list (tk.reverse.map PyData.str)))(hp:aA (.tuple [.str aI])):
  bS (Run C) pf (.tuple [.str gk,.str aI]) (.N (tk++rest)) b .none (.N rest) (b.tell (aO gk [.str aI] tk.reverse)):=by
 intro b1 γ Q k;obtain⟨l1,l2,l3⟩:=pU (w:=gk) (by decide+kernel) hp hs;have q1:0<=((tk++rest).map PyData.str).length:=by rw[List.length_map,List.length_append];omega
 have q2:((tk++rest).map PyData.str).length<=ah:=by rw[List.length_map];unfold ah;omega
 refine⟨⟨q1,q2⟩,?_⟩;rw[pT]
 rotate_left
 ·exact jH.symm
 refine⟨⟨q1,q2⟩,?_⟩;rw[kJ]
 rotate_left
 ·exact jH.symm
 refine⟨by decide,?_⟩;refine⟨⟨Nat.le_of_ble_eq_true rfl,Nat.le_of_ble_eq_true rfl,Nat.le_of_ble_eq_true rfl⟩,?_⟩;refine⟨by decide+kernel,?_⟩;refine⟨hp.b,?_⟩;refine⟨l1,?_⟩;refine⟨l2,?_⟩;refine⟨hs.b,?_⟩;refine⟨l3,?_⟩;refine(hm pf b b1 (k7.N rest).bb none γ (aO gk [.str aI] tk.reverse) _).1 hb ?_;exact k γ _
theorem NO{C:Cl}(hm:MarkC C){pf:PF}{tk rest:List Str}{b:Bk}(hb:b.told.length<=100000)(jH:tk.length=0)(kI:(tk++rest).length<=100000)(hs:aA (.list (tk.reverse.map PyData.str)))(hp:aA (.tuple [])):
  bS (Run C) pf (.tuple [.str qU,.list [],.list []]) (.N (tk++rest)) b .none (.N rest) (b.tell (aO qU [] tk.reverse)):=by
 intro b1 γ Q k;obtain⟨l1,l2,l3⟩:=pU (w:=qU) (by decide+kernel) hp hs;have q1:0<=((tk++rest).map PyData.str).length:=by rw[List.length_map,List.length_append];omega
 have q2:((tk++rest).map PyData.str).length<=ah:=by rw[List.length_map];unfold ah;omega
 refine⟨⟨q1,q2⟩,?_⟩;rw[pT]
 rotate_left
 ·exact jH.symm
 refine⟨⟨q1,q2⟩,?_⟩;rw[kJ]
 rotate_left
 ·exact jH.symm
 refine⟨by decide+kernel,?_⟩;refine⟨hp.b,?_⟩;refine⟨l1,?_⟩;refine⟨l2,?_⟩;refine⟨hs.b,?_⟩;refine⟨l3,?_⟩;refine(hm pf b b1 (k7.N rest).bb none γ (aO qU [] tk.reverse) _).1 hb ?_;exact k γ _
theorem Ax{C:Cl}(hm:MarkC C){pf:PF}{tk rest:List Str}{b:Bk}(hb:b.told.length<=100000)(jH:tk.length=0)(kI:(tk++rest).length<=100000)(hs:aA (.list (tk.reverse.map PyData.str)))(hp:aA (.tuple [])):
  bS (Run C) pf (.tuple [.str fM]) (.N (tk++rest)) b .none (.N rest) (b.tell (aO fM [] tk.reverse)):=by
 intro b1 γ Q k;obtain⟨l1,l2,l3⟩:=pU (w:=fM) (by decide+kernel) hp hs;have q1:0<=((tk++rest).map PyData.str).length:=by rw[List.length_map,List.length_append];omega
 have q2:((tk++rest).map PyData.str).length<=ah:=by rw[List.length_map];unfold ah;omega
 refine⟨⟨q1,q2⟩,?_⟩;rw[pT]
 rotate_left
 ·exact jH.symm
 refine⟨⟨q1,q2⟩,?_⟩;rw[kJ]
 rotate_left
 ·exact jH.symm
 refine⟨by decide,?_⟩;refine⟨⟨Nat.le_of_ble_eq_true rfl,Nat.le_of_ble_eq_true rfl,Nat.le_of_ble_eq_true rfl⟩,?_⟩;refine⟨by decide+kernel,?_⟩;refine⟨hp.b,?_⟩;refine⟨l1,?_⟩;refine⟨l2,?_⟩;refine⟨hs.b,?_⟩;refine⟨l3,?_⟩;refine(hm pf b b1 (k7.N rest).bb none γ (aO fM [] tk.reverse) _).1 hb ?_;exact k γ _
theorem yf{C:Cl}(hm:MarkC C){pf:PF}{tk rest:List Str}{b:Bk}(hb:b.told.length<=100000)(jH:tk.length=0)(kI:(tk++rest).length<=100000)(hs:aA (.list (tk.reverse.map PyData.str)))(hp:aA (.tuple [])):
  bS (Run C) pf (.tuple [.str gf]) (.N (tk++rest)) b .none (.N rest) (b.tell (aO gf [] tk.reverse)):=by
 intro b1 γ Q k;obtain⟨l1,l2,l3⟩:=pU (w:=gf) (by decide+kernel) hp hs;have q1:0<=((tk++rest).map PyData.str).length:=by rw[List.length_map,List.length_append];omega
 have q2:((tk++rest).map PyData.str).length<=ah:=by rw[List.length_map];unfold ah;omega
 refine⟨⟨q1,q2⟩,?_⟩;rw[pT]
 rotate_left
 ·exact jH.symm
 refine⟨⟨q1,q2⟩,?_⟩;rw[kJ]
 rotate_left
 ·exact jH.symm
 refine⟨by decide,?_⟩;refine⟨⟨Nat.le_of_ble_eq_true rfl,Nat.le_of_ble_eq_true rfl,Nat.le_of_ble_eq_true rfl⟩,?_⟩;refine⟨by decide+kernel,?_⟩;refine⟨hp.b,?_⟩;refine⟨l1,?_⟩;refine⟨l2,?_⟩;refine⟨hs.b,?_⟩;refine⟨l3,?_⟩;refine(hm pf b b1 (k7.N rest).bb none γ (aO gf [] tk.reverse) _).1 hb ?_;exact k γ _
theorem Fp{C:Cl}(hm:MarkC C){pf:PF}{tk rest:List Str}{b:Bk}(hb:b.told.length<=100000)(jH:tk.length=0)(kI:(tk++rest).length<=100000)(hs:aA (.list (tk.reverse.map PyData.str)))(hp:aA (.tuple [])):
  bS (Run C) pf (.tuple [.str iC]) (.N (tk++rest)) b .none (.N rest) (b.tell (aO iC [] tk.reverse)):=by
 intro b1 γ Q k;obtain⟨l1,l2,l3⟩:=pU (w:=iC) (by decide+kernel) hp hs;have q1:0<=((tk++rest).map PyData.str).length:=by rw[List.length_map,List.length_append];omega
 have q2:((tk++rest).map PyData.str).length<=ah:=by rw[List.length_map];unfold ah;omega
 refine⟨⟨q1,q2⟩,?_⟩;rw[pT]
 rotate_left
 ·exact jH.symm
 refine⟨⟨q1,q2⟩,?_⟩;rw[kJ]
 rotate_left
 ·exact jH.symm
 refine⟨by decide,?_⟩;refine⟨⟨Nat.le_of_ble_eq_true rfl,Nat.le_of_ble_eq_true rfl,Nat.le_of_ble_eq_true rfl⟩,?_⟩;refine⟨by decide+kernel,?_⟩;refine⟨hp.b,?_⟩;refine⟨l1,?_⟩;refine⟨l2,?_⟩;refine⟨hs.b,?_⟩;refine⟨l3,?_⟩;refine(hm pf b b1 (k7.N rest).bb none γ (aO iC [] tk.reverse) _).1 hb ?_;exact k γ _
theorem yg{C:Cl}(hm:MarkC C){pf:PF}{e:Str}{f c:Nat}{tk rest:List Str}{b:Bk}(hb:b.told.length<=100000)(jH:tk.length=1+f+c)(kI:(tk++rest).length<=100000)(hs:aA (.list (tk.reverse.map PyData.str)))(hp:aA (.tuple [.str e,.int (.ofNat f),.int (.ofNat c)])):
  bS (Run C) pf (.tuple [.str cu,.str e,.int (.ofNat f),.int (.ofNat c)]) (.N (tk++rest)) b .none (.N rest) (b.tell (aO cu [.str e,.int (.ofNat f),.int (.ofNat c)] tk.reverse)):=by
 intro b1 γ Q k;obtain⟨l1,l2,l3⟩:=pU (w:=cu) (by decide+kernel) hp hs;have q1:1+f+c<=((tk++rest).map PyData.str).length:=by rw[List.length_map,List.length_append];exact ai (xq jH)
 have q2:((tk++rest).map PyData.str).length<=ah:=by rw[List.length_map];unfold ah;omega
 refine⟨⟨q1,q2⟩,?_⟩;rw[pT]
 rotate_left
 ·exact jH.symm
 refine⟨⟨q1,q2⟩,?_⟩;rw[kJ]
 rotate_left
 ·exact jH.symm
 refine⟨by decide,?_⟩;refine⟨⟨Nat.le_of_ble_eq_true rfl,Nat.le_of_ble_eq_true rfl,Nat.le_of_ble_eq_true rfl⟩,?_⟩;refine⟨by decide+kernel,?_⟩;refine⟨hp.b,?_⟩;refine⟨l1,?_⟩;refine⟨l2,?_⟩;refine⟨hs.b,?_⟩;refine⟨l3,?_⟩;refine(hm pf b b1 (k7.N rest).bb none γ (aO cu [.str e,.int (.ofNat f),.int (.ofNat c)] tk.reverse) _).1 hb ?_;exact k γ _
theorem Fq{C:Cl}(hm:MarkC C){pf:PF}{e:Str}{f:Nat}{fm:D}{tk rest:List Str}{b:Bk}(hb:b.told.length<=100000)(jH:tk.length=f)(kI:(tk++rest).length<=100000)(hs:aA (.list (tk.reverse.map PyData.str)))(hp:aA (.tuple [.str e,.int (.ofNat f),fm])):
  bS (Run C) pf (.tuple [.str bw,.str e,.int (.ofNat f),fm]) (.N (tk++rest)) b .none (.N rest) (b.tell (aO bw [.str e,.int (.ofNat f),fm] tk.reverse)):=by
 intro b1 γ Q k;obtain⟨l1,l2,l3⟩:=pU (w:=bw) (by decide+kernel) hp hs;have q1:f<=((tk++rest).map PyData.str).length:=by rw[List.length_map,List.length_append];exact ai (xq jH)
 have q2:((tk++rest).map PyData.str).length<=ah:=by rw[List.length_map];unfold ah;omega
 refine⟨⟨q1,q2⟩,?_⟩;rw[pT]
 rotate_left
 ·exact jH.symm
 refine⟨⟨q1,q2⟩,?_⟩;rw[kJ]
 rotate_left
 ·exact jH.symm
 refine⟨by decide,?_⟩;refine⟨⟨Nat.le_of_ble_eq_true rfl,Nat.le_of_ble_eq_true rfl,Nat.le_of_ble_eq_true rfl⟩,?_⟩;refine⟨by decide+kernel,?_⟩;refine⟨hp.b,?_⟩;refine⟨l1,?_⟩;refine⟨l2,?_⟩;refine⟨hs.b,?_⟩;refine⟨l3,?_⟩;refine(hm pf b b1 (k7.N rest).bb none γ (aO bw [.str e,.int (.ofNat f),fm] tk.reverse) _).1 hb ?_;exact k γ _
theorem ur{C:Cl}(hm:MarkC C){pf:PF}{fm:D}{tk rest:List Str}{b:Bk}(hb:b.told.length<=100000)(jH:tk.length=0)(kI:(tk++rest).length<=100000)(hs:aA (.list (tk.reverse.map PyData.str)))(hp:aA (.tuple [fm])):
  bS (Run C) pf (.tuple [.str cO,fm]) (.N (tk++rest)) b .none (.N rest) (b.tell (aO cO [fm] tk.reverse)):=by
 intro b1 γ Q k;obtain⟨l1,l2,l3⟩:=pU (w:=cO) (by decide+kernel) hp hs;have q1:0<=((tk++rest).map PyData.str).length:=by rw[List.length_map,List.length_append];omega
 have q2:((tk++rest).map PyData.str).length<=ah:=by rw[List.length_map];unfold ah;omega
 refine⟨⟨q1,q2⟩,?_⟩;rw[pT]
 rotate_left
 ·exact jH.symm
 refine⟨⟨q1,q2⟩,?_⟩;rw[kJ]
 rotate_left
 ·exact jH.symm
 refine⟨by decide,?_⟩;refine⟨⟨Nat.le_of_ble_eq_true rfl,Nat.le_of_ble_eq_true rfl,Nat.le_of_ble_eq_true rfl⟩,?_⟩;refine⟨by decide+kernel,?_⟩;refine⟨hp.b,?_⟩;refine⟨l1,?_⟩;refine⟨l2,?_⟩;refine⟨hs.b,?_⟩;refine⟨l3,?_⟩;refine(hm pf b b1 (k7.N rest).bb none γ (aO cO [fm] tk.reverse) _).1 hb ?_;exact k γ _
theorem Iu{C:Cl}(hm:MarkC C){pf:PF}{u:Bool}{tk rest:List Str}{b:Bk}(hb:b.told.length<=100000)(jH:tk.length=1)(kI:(tk++rest).length<=100000)(hs:aA (.list (tk.reverse.map PyData.str)))(hp:aA (.tuple [.bool u])):
  bS (Run C) pf (.tuple [.str bE,.bool u]) (.N (tk++rest)) b .none (.N rest) (b.tell (aO bE [.bool u] tk.reverse)):=by
 intro b1 γ Q k;obtain⟨l1,l2,l3⟩:=pU (w:=bE) (by decide+kernel) hp hs;have q1:1<=((tk++rest).map PyData.str).length:=by rw[List.length_map,List.length_append];omega
 have q2:((tk++rest).map PyData.str).length<=ah:=by rw[List.length_map];unfold ah;omega
 refine⟨⟨q1,q2⟩,?_⟩;rw[pT]
 rotate_left
 ·exact jH.symm
 refine⟨⟨q1,q2⟩,?_⟩;rw[kJ]
 rotate_left
 ·exact jH.symm
 refine⟨by decide,?_⟩;refine⟨⟨Nat.le_of_ble_eq_true rfl,Nat.le_of_ble_eq_true rfl,Nat.le_of_ble_eq_true rfl⟩,?_⟩;refine⟨by decide+kernel,?_⟩;refine⟨hp.b,?_⟩;refine⟨l1,?_⟩;refine⟨l2,?_⟩;refine⟨hs.b,?_⟩;refine⟨l3,?_⟩;refine(hm pf b b1 (k7.N rest).bb none γ (aO bE [.bool u] tk.reverse) _).1 hb ?_;exact k γ _
theorem Iv{C:Cl}(hm:MarkC C){pf:PF}{tk rest:List Str}{b:Bk}(hb:b.told.length<=100000)(jH:tk.length=1)(kI:(tk++rest).length<=100000)(hs:aA (.list (tk.reverse.map PyData.str)))(hp:aA (.tuple [])):
  bS (Run C) pf (.tuple [.str d5]) (.N (tk++rest)) b .none (.N rest) (b.tell (aO d5 [] tk.reverse)):=by
 intro b1 γ Q k;obtain⟨l1,l2,l3⟩:=pU (w:=d5) (by decide+kernel) hp hs;have q1:1<=((tk++rest).map PyData.str).length:=by rw[List.length_map,List.length_append];omega
 have q2:((tk++rest).map PyData.str).length<=ah:=by rw[List.length_map];unfold ah;omega
 refine⟨⟨q1,q2⟩,?_⟩;rw[pT]
 rotate_left
 ·exact jH.symm
 refine⟨⟨q1,q2⟩,?_⟩;rw[kJ]
 rotate_left
 ·exact jH.symm
 refine⟨by decide,?_⟩;refine⟨⟨Nat.le_of_ble_eq_true rfl,Nat.le_of_ble_eq_true rfl,Nat.le_of_ble_eq_true rfl⟩,?_⟩;refine⟨by decide+kernel,?_⟩;refine⟨hp.b,?_⟩;refine⟨l1,?_⟩;refine⟨l2,?_⟩;refine⟨hs.b,?_⟩;refine⟨l3,?_⟩;refine(hm pf b b1 (k7.N rest).bb none γ (aO d5 [] tk.reverse) _).1 hb ?_;exact k γ _
theorem CW{C:Cl}(hm:MarkC C){pf:PF}{e:Str}{f p:Nat}{u:Bool}{tk rest:List Str}{b:Bk}(hb:b.told.length<=100000)(jH:tk.length=f+p)(kI:(tk++rest).length<=100000)(hs:aA (.list (tk.reverse.map PyData.str)))(hp:aA (.tuple [.str e,.int (.ofNat f),.int (.ofNat p),.bool u])):
  bS (Run C) pf (.tuple [.str cz,.str e,.int (.ofNat f),.int (.ofNat p),.bool u]) (.N (tk++rest)) b .none (.N rest) (b.tell (aO cz [.str e,.int (.ofNat f),.int (.ofNat p),.bool u] tk.reverse)):=by
 intro b1 γ Q k;obtain⟨l1,l2,l3⟩:=pU (w:=cz) (by decide+kernel) hp hs;have q1:f+p<=((tk++rest).map PyData.str).length:=by rw[List.length_map,List.length_append];exact ai (xq jH)
 have q2:((tk++rest).map PyData.str).length<=ah:=by rw[List.length_map];unfold ah;omega
 conv=>whnf
 refine⟨⟨q1,q2⟩,?_⟩;rw[pT]
 rotate_left
 ·exact jH.symm
 refine⟨⟨q1,q2⟩,?_⟩;rw[kJ]
 rotate_left
 ·exact jH.symm
 refine⟨by decide,?_⟩;refine⟨⟨Nat.le_of_ble_eq_true rfl,Nat.le_of_ble_eq_true rfl,Nat.le_of_ble_eq_true rfl⟩,?_⟩;refine⟨by decide+kernel,?_⟩;refine⟨hp.b,?_⟩;refine⟨l1,?_⟩;refine⟨l2,?_⟩;refine⟨hs.b,?_⟩;refine⟨l3,?_⟩;refine(hm pf b b1 (k7.N rest).bb none γ (aO cz [.str e,.int (.ofNat f),.int (.ofNat p),.bool u] tk.reverse) _).1 hb ?_;exact k γ _
theorem CX{C:Cl}(hm:MarkC C)(hr:mh C){pf:PF}{e:Str}{f c:Nat}{how:Option Bool}{m:Int}{tk rest:List Str}{b:Bk}(hb:b.told.length<=100000)(jH:tk.length=1+f+c+CV how)(kI:(tk++rest).length<=100000)(hs:aA (.list (tk.reverse.map PyData.str)))(hp:aA (.tuple [.str e,.int (.ofNat f),.int (.ofNat c),.str (qE how)]))(ha:pf.gG.natAbs<=ah):
  bS (Run C) pf (.tuple [.str dJ,.str e,.int (.ofNat f),.int (.ofNat c),.str (qE how),.int m]) (.N (tk++rest)) b (tryGoal (iA pf.gG b.ask.asked (Int.ofNat 2)) m) (.N rest) (b.tell (aO dJ [.str e,.int (.ofNat f),.int (.ofNat c),.str (qE how)] tk.reverse)).ask:=by
 intro b1 γ Q k;obtain⟨l1,l2,l3⟩:=pU (w:=dJ) (by decide+kernel) hp hs;have q1:1+f+c+CV how<=((tk++rest).map PyData.str).length:=by rw[List.length_map,List.length_append];exact ai (xq jH)
 have q2:((tk++rest).map PyData.str).length<=ah:=by rw[List.length_map];unfold ah;omega
 rcases how with _|_|_
 all_goals
  conv=>whnf
  refine⟨⟨q1,q2⟩,?_⟩;rw[pT]
  rotate_left
  ·exact jH.symm
  refine⟨⟨q1,q2⟩,?_⟩;rw[kJ]
  rotate_left
  ·exact jH.symm
  refine⟨by decide,?_⟩;refine⟨by decide,?_⟩;refine⟨⟨Nat.le_of_ble_eq_true rfl,Nat.le_of_ble_eq_true rfl,Nat.le_of_ble_eq_true rfl,Nat.le_of_ble_eq_true rfl⟩,?_⟩;refine⟨by decide+kernel,?_⟩;refine⟨hp.b,?_⟩;refine⟨l1,?_⟩;refine⟨l2,?_⟩;refine⟨hs.b,?_⟩;refine⟨l3,?_⟩
  conv=>whnf
  refine(hm pf b b1 (k7.N rest).bb none γ (aO dJ [.str e,.int (.ofNat f),.int (.ofNat c),.str _] tk.reverse) _).1 hb ?_
  conv=>whnf
  refine(hr pf (b.tell (aO dJ [.str e,.int (.ofNat f),.int (.ofNat c),.str _] tk.reverse)) b1 (k7.N rest).bb none γ (Int.ofNat 2) _ (by decide) ha).1 ?_
  conv=>whnf
  split
  ·rename_i hd;have hz:iA pf.gG b.ask.asked (Int.ofNat 2)=Int.ofNat 0:=of_decide_eq_true hd;rw[yO hz]at k;exact k γ _
  ·rename_i hd;have hz:¬iA pf.gG b.ask.asked (Int.ofNat 2)=Int.ofNat 0:=of_decide_eq_false hd;rw[wC hz]at k;exact k γ _
end
noncomputable def Y9(t:Th):D:=bV M0 (dD t)
theorem GK:iE++aQ=kh:=by decide+kernel
theorem yP:j2++aQ=iO:=by decide+kernel
theorem Iw:nh++aQ=nj:=by decide+kernel
theorem mS:∀t∈wB,aA (match t with|.obj=>.tuple [.int (.ofNat 1),.str Ba]|.lit k=>.tuple [.int k]):=by unfold aA;decide+kernel
theorem yQ:aA (.tuple [.int (.ofNat 0),.str Ba]):=by unfold aA;decide+kernel
theorem wD:aA (.tuple [.int (.ofNat 0),.str SE]):=by unfold aA;decide+kernel
theorem jv:aA (.tuple []):=by unfold aA;decide+kernel
theorem Fs{w:Str}{p:D}(h:(w++aQ).length<=100)(hp:aA p):(w++aQ).length+p.shown.length<=ah:=by
 have:=hp.2.2.2;unfold ah;exact aZ h this
theorem CY{C:Cl}{pf:PF}{a:Int}{s:Str}{st:List Str}{b:Bk}(hp:aA (.tuple [.int a,.str s]))(kI:st.length<=100000):
  bS (Run C) pf (.tuple [.str iE,.int a,.str s]) (.N st) b .none (.N ((kh++(PyData.tuple [.int a,.str s]).shown)::st)) b:=by
 intro b1 γ Q k;have l1:=Fs (w:=iE) (by decide+kernel) hp;rw[<-GK]at k;refine⟨by decide+kernel,?_⟩;refine⟨by decide,?_⟩;refine⟨⟨Nat.le_of_ble_eq_true rfl,Nat.le_of_ble_eq_true rfl,Nat.le_of_ble_eq_true rfl⟩,?_⟩;refine⟨hp.b,?_⟩;refine⟨l1,?_⟩;refine⟨by show 0+(st.map PyData.str).length<ah;rw[List.length_map];unfold ah;exact ai kI,?_⟩;exact k γ _
theorem Ft{C:Cl}{pf:PF}{a:Int}{st:List Str}{b:Bk}(hp:aA (.tuple [.int a]))(kI:st.length<=100000):
  bS (Run C) pf (.tuple [.str j2,.int a]) (.N st) b .none (.N ((iO++(PyData.tuple [.int a]).shown)::st)) b:=by
 intro b1 γ Q k;have l1:=Fs (w:=j2) (by decide+kernel) hp;rw[<-yP]at k;refine⟨by decide+kernel,?_⟩;refine⟨by decide,?_⟩;refine⟨⟨Nat.le_of_ble_eq_true rfl,Nat.le_of_ble_eq_true rfl,Nat.le_of_ble_eq_true rfl⟩,?_⟩;refine⟨hp.b,?_⟩;refine⟨l1,?_⟩;refine⟨by show 0+(st.map PyData.str).length<ah;rw[List.length_map];unfold ah;exact ai kI,?_⟩;exact k γ _
theorem Fu{C:Cl}{pf:PF}{st:List Str}{b:Bk}(kI:st.length<=100000):
  bS (Run C) pf (.tuple [.str nh,.int (.ofNat 0),.str SE]) (.N st) b .none (.N (lE::st)) b:=by
 intro b1 γ Q k;have hp:=wD;have l1:=Fs (w:=nh) (by decide+kernel) hp;unfold lE at k;rw[<-Iw]at k;refine⟨by decide+kernel,?_⟩;refine⟨by decide,?_⟩;refine⟨⟨Nat.le_of_ble_eq_true rfl,Nat.le_of_ble_eq_true rfl,Nat.le_of_ble_eq_true rfl⟩,?_⟩;refine⟨hp.b,?_⟩;refine⟨l1,?_⟩;refine⟨by show 0+(st.map PyData.str).length<ah;rw[List.length_map];unfold ah;exact ai kI,?_⟩;exact k γ _
theorem Lu{C:Cl}{pf:PF}{a:Int}{s:Str}{ol:List D}{b:Bk}(hp:aA (.tuple [.int a,.str s])):
  bS (Run C) pf (.tuple [.str iE,.int a,.str s]) (.O [] ol) b .none (.O [(kh++(PyData.tuple [.int a,.str s]).shown)] ol) b:=by
 intro b1 γ Q k;have l1:=Fs (w:=iE) (by decide+kernel) hp;rw[<-GK]at k;refine⟨by decide+kernel,?_⟩;refine⟨by decide,?_⟩;refine⟨⟨Nat.le_of_ble_eq_true rfl,Nat.le_of_ble_eq_true rfl,Nat.le_of_ble_eq_true rfl⟩,?_⟩;refine⟨hp.b,?_⟩;refine⟨l1,?_⟩;refine⟨by decide,?_⟩;exact k γ _
theorem Fv{C:Cl}{pf:PF}{a:Int}{ol:List D}{b:Bk}(hp:aA (.tuple [.int a])):
  bS (Run C) pf (.tuple [.str j2,.int a]) (.O [] ol) b .none (.O [(iO++(PyData.tuple [.int a]).shown)] ol) b:=by
 intro b1 γ Q k;have l1:=Fs (w:=j2) (by decide+kernel) hp;rw[<-yP]at k;refine⟨by decide+kernel,?_⟩;refine⟨by decide,?_⟩;refine⟨⟨Nat.le_of_ble_eq_true rfl,Nat.le_of_ble_eq_true rfl,Nat.le_of_ble_eq_true rfl⟩,?_⟩;refine⟨hp.b,?_⟩;refine⟨l1,?_⟩;refine⟨by decide,?_⟩;exact k γ _
theorem NP{C:Cl}{pf:PF}{t:Th}{st:List Str}{b:Bk}(h:gI t)(kI:st.length<=100000):
  bS (Run C) pf (Y9 t) (.N st) b .none (.N (bD t::st)) b:=by
 induction t using Th.casesOn with
 |obj=>exact CY (mS _ (mf h)) kI
 |lit k=>exact Ft (mS _ (mf h)) kI
theorem NQ{C:Cl}{pf:PF}{t:Th}{ol:List D}{b:Bk}(h:gI t):
  bS (Run C) pf (Y9 t) (.O [] ol) b .none (.O [bD t] ol) b:=by
 induction t using Th.casesOn with
 |obj=>exact Lu (mS _ (mf h))
 |lit k=>exact Fv (mS _ (mf h))
theorem Lv{C:Cl}{pf:PF}{b:Bk}:bS (Run C) pf (.tuple [.str qk]) (.N []) b .none (.O [] []) b:=by
 intro b1 γ Q k;refine⟨by decide,?_⟩;exact k _ _
theorem tV{C:Cl}{pf:PF}{m:Int}{g:Bool}{ol:List D}{b:Bk}:
  bS (Run C) pf (.tuple [.str mE,.int m]) (.O [bD (.lit (match g with|false=>.ofNat 0|true=>.ofNat 1))] ol) b (match g with|false=>.int m|true=>.none) (.O [] ol) b:=by
 intro b1 γ Q k;rcases g with _|_
 ·conv=>whnf
  exact k γ _
 ·conv=>whnf
  exact k γ _
noncomputable def iQ(w:Str)(parts:List D)(Vt:Str):Str:=(((w++aQ)++(PyData.tuple parts).shown)++aQ)++Vt
noncomputable def lF(i:Nat)(x:Str):D:=.tuple [.int (.ofNat i),.str x]
noncomputable def oP(C:Cl)(pf:PF)(row:D)(sk:k7)(b:Bk)(goal:D)(xB:k7)(b':Bk):Prop:=∀(b1:Bk) (γ:Nat) (Q:KV),
 (∀gE τ,Q (.d goal) (eU pf b' b1 xB.bb xB.bC gE τ))->C om [.b 10,.d row,.b 14] (eU pf b b1 sk.bb sk.bC γ []) Q
theorem NR{w:Str}{p:D}{x:Str}(h:(w++aQ).length<=100)(hp:aA p)(hx:x.length<=5000):(w++aQ).length+p.shown.length<=ah/\((w++aQ)++p.shown).length+aQ.length<=ah/\(((w++aQ)++p.shown)++aQ).length+x.length<=ah:=by
 have h1:=hp.2.2.2;have h3:aQ.length=1:=by decide
 rw[strLen_append (w++aQ++p.shown),strLen_append (w++aQ)];unfold ah;exact⟨aZ h h1,jG h h1 (il h3),uB h hx h1 (il h3)⟩
theorem Vu{C:Cl}{pf:PF}{i:Nat}{e:Str}{ol:List D}{b:Bk}(hp:aA (.tuple [.str e,.int (.ofNat 0)]))(DE:ol.length<=1000):
  oP (Run C) pf (.tuple [.str bN,.int (.ofNat i),.str e,.int (.ofNat 0)]) (.O [] ol) b .none (.O [] (lF i (iQ bN [.str e,.int (.ofNat 0)] aI)::ol)) b:=by
 intro b1 γ Q k;obtain⟨l1,l2,l3⟩:=NR (w:=bN) (x:=aI) (by decide+kernel) hp (by decide);refine⟨by decide+kernel,?_⟩;refine⟨by decide,?_⟩;refine⟨⟨Nat.le_of_ble_eq_true rfl,Nat.le_of_ble_eq_true rfl,Nat.le_of_ble_eq_true rfl⟩,?_⟩;refine⟨hp.b,?_⟩;refine⟨l1,?_⟩;refine⟨l2,?_⟩;refine⟨l3,?_⟩;refine⟨rfl,?_⟩;refine⟨by show 0+ol.length<ah;unfold ah;exact ai DE,?_⟩;exact k γ _
theorem Vv{C:Cl}{pf:PF}{i:Nat}{e x:Str}{ol:List D}{b:Bk}(hx:x.length<=5000)(hp:aA (.tuple [.str e,.int (.ofNat 1)]))(DE:ol.length<=1000):
  oP (Run C) pf (.tuple [.str bN,.int (.ofNat i),.str e,.int (.ofNat 1)]) (.O [x] ol) b .none (.O [] (lF i (iQ bN [.str e,.int (.ofNat 1)] x)::ol)) b:=by
 intro b1 γ Q k;refine bc fun bf=>?_;obtain⟨l1,l2,l3⟩:=NR (w:=bN) (x:=x) (by decide+kernel) hp hx;refine bf ?_;refine⟨by decide+kernel,?_⟩;refine⟨by decide,?_⟩;refine⟨⟨Nat.le_of_ble_eq_true rfl,Nat.le_of_ble_eq_true rfl,Nat.le_of_ble_eq_true rfl⟩,?_⟩;refine⟨hp.b,?_⟩;refine⟨l1,?_⟩;refine⟨l2,?_⟩;refine⟨l3,?_⟩;refine⟨rfl,?_⟩;refine⟨by show 0+ol.length<ah;unfold ah;exact ai DE,?_⟩;exact k γ _
theorem Rq{C:Cl}{pf:PF}{i:Nat}{u:Bool}{x:Str}{ol:List D}{b:Bk}(hx:x.length<=5000)(hp:aA (.tuple [.bool u]))(DE:ol.length<=1000):
  oP (Run C) pf (.tuple [.str de,.int (.ofNat i),.bool u]) (.O [x] ol) b .none (.O [] (lF i (iQ de [.bool u] x)::ol)) b:=by
 intro b1 γ Q k;refine bc fun bf=>?_;obtain⟨l1,l2,l3⟩:=NR (w:=de) (x:=x) (by decide+kernel) hp hx;refine bf ?_;refine⟨by decide+kernel,?_⟩;refine⟨by decide,?_⟩;refine⟨⟨Nat.le_of_ble_eq_true rfl,Nat.le_of_ble_eq_true rfl,Nat.le_of_ble_eq_true rfl⟩,?_⟩;refine⟨hp.b,?_⟩;refine⟨l1,?_⟩;refine⟨l2,?_⟩;refine⟨l3,?_⟩;refine⟨rfl,?_⟩;refine⟨by show 0+ol.length<ah;unfold ah;exact ai DE,?_⟩;exact k γ _
theorem Za{C:Cl}{pf:PF}{i:Nat}{ol:List D}{b:Bk}(DE:ol.length<=1000):
  oP (Run C) pf (.tuple [.str eG,.int (.ofNat i)]) (.O [] ol) b .none (.O [] (lF i (iQ eG [] aI)::ol)) b:=by
 intro b1 γ Q k;have hp:=jv;refine bc fun bf=>?_;obtain⟨l1,l2,l3⟩:=NR (w:=eG) (x:=aI) (by decide+kernel) hp (by decide);refine bf ?_;refine⟨by decide+kernel,?_⟩;refine⟨by decide,?_⟩;refine⟨⟨Nat.le_of_ble_eq_true rfl,Nat.le_of_ble_eq_true rfl,Nat.le_of_ble_eq_true rfl⟩,?_⟩;refine⟨hp.b,?_⟩;refine⟨l1,?_⟩;refine⟨l2,?_⟩;refine⟨l3,?_⟩;refine⟨rfl,?_⟩;refine⟨by show 0+ol.length<ah;unfold ah;omega,?_⟩;exact k γ _
theorem lU{C:Cl}{pf:PF}{w:Str}{xs:List D}{sk xB:k7}{b:Bk}(hw:w=bN\/w=de\/w=eG)(h:oP C pf (.tuple (.str w::xs)) sk b .none xB b):
  bS (Run C) pf (.tuple (.str w::xs)) sk b .none xB b:=by
 intro b1 γ Q k;rcases hw with rfl|rfl|rfl
 all_goals
  refine h b1 γ _ fun gE τ=>?_;exact k _ _
noncomputable def gr(b:Bool)(rs:List D):Str:=((eF++(PyData.bool b).shown)++aQ)++(PyData.list rs).shown
theorem td{b:Bool}{d:D}(h:aA d):eF.length+(PyData.bool b).shown.length<=ah/\(eF++(PyData.bool b).shown).length+aQ.length<=ah/\((eF++(PyData.bool b).shown)++aQ).length+d.shown.length<=ah:=by
 have h1:=h.2.2.2;have h2:∀b,(PyData.bool b).shown.length<=5:=by decide+kernel
 have h2:=h2 b;have h3:aQ.length=1:=by decide
 have h4:eF.length=7:=by decide
 rw[strLen_append (eF++(PyData.bool b).shown),strLen_append eF];unfold ah;exact⟨aZ h2 (il h4),jG h2 (il h3) (il h4),uB h1 h2 (il h3) (il h4)⟩
theorem CZ{C:Cl}(hm:MarkC C){pf:PF}{e:Bool}{ms:List D}{m:Int}{b:Bk}(hb:b.told.length<=100000):
  bS (Run C) pf (.tuple [.str bB,.bool e,.list ms,.int m]) (.O [] []) b (if e then .int m else .int (.negSucc 0)) (.N []) (b.tell (gr e [])):=by
 intro b1 γ Q k;have hs:aA (.list []):=by unfold aA;decide+kernel
 obtain⟨l1,l2,l3⟩:=td (b:=e) hs;refine⟨l1,?_⟩;refine⟨l2,?_⟩;refine⟨hs.b,?_⟩;refine⟨l3,?_⟩;refine(hm pf b b1 (k7.N []).bb none (γ+1) (gr e []) _).1 hb ?_;rcases e with _|_
 ·conv=>whnf
  exact k _ _
 ·conv=>whnf
  exact k _ _
theorem Lw{C:Cl}(hm:MarkC C)(hr:mh C){pf:PF}{ms:List D}{m:Int}{ol:List D}{b:Bk}(hb:b.told.length<=100000)(ha:pf.gG.natAbs<=ah)(qI:isNil ol.reverse=false)(hs:aA (.list ol.reverse))(hz:iA pf.gG b.ask.asked (Int.ofNat 3)=Int.ofNat 0):
  bS (Run C) pf (.tuple [.str bB,.bool true,.list ms,.int m]) (.O [] ol) b (.int m) (.N []) (b.tell (gr true ol.reverse)).ask:=by
 intro b1 γ Q k;refine bc fun bf=>?_;obtain⟨l1,l2,l3⟩:=td (b:=true) hs;refine bf ?_;refine⟨l1,?_⟩;refine⟨l2,?_⟩;refine⟨hs.b,?_⟩;refine⟨l3,?_⟩;refine(hm pf b b1 (k7.N []).bb none (γ+1) (gr true ol.reverse) _).1 hb ?_
 conv=>whnf
 refine az (qI) ?_;refine(hr pf (b.tell (gr true ol.reverse)) b1 (k7.N []).bb none (γ+1) (Int.ofNat 3) _ (by decide) ha).1 ?_
 conv=>whnf
 split
 ·conv=>whnf
  exact k _ _
 ·rename_i hd;exact absurd hz (of_decide_eq_false hd)
theorem Lx{C:Cl}(hm:MarkC C)(hr:mh C){pf:PF}{ms:List D}{m:Int}{ol:List D}{b:Bk}(hb:b.told.length<=100000)(ha:pf.gG.natAbs<=ah)(qI:isNil ol.reverse=false)(hs:aA (.list ol.reverse))(hz:¬iA pf.gG b.ask.asked (Int.ofNat 3)=Int.ofNat 0)
  {j i:Nat} {x:Str} {g:Int} (hlen:ol.length<=1000) (hj:iA pf.gG b.ask.ask.asked (Int.ofNat ol.length)=Int.ofNat j) (hx:idx ol.reverse (Int.ofNat j)=some (lF i x)) (hi:idx ms (Int.ofNat i)=some (.int g)) (hi9:i<=90) (hj9:j<=90):
  bS (Run C) pf (.tuple [.str bB,.bool true,.list ms,.int m]) (.O [] ol) b (.int g) (.N []) (b.tell (gr true ol.reverse)).ask.ask:=by
 intro b1 γ Q k;obtain⟨l1,l2,l3⟩:=td (b:=true) hs;have Rr:0<ol.length:=by induction ol using List.casesOn with
  |nil=>cases qI
  |cons _ _=>exact Nat.succ_pos _
 refine⟨l1,?_⟩;refine⟨l2,?_⟩;refine⟨hs.b,?_⟩;refine⟨l3,?_⟩;refine(hm pf b b1 (k7.N []).bb none (γ+1) (gr true ol.reverse) _).1 hb ?_
 conv=>whnf
 refine az (qI) ?_;refine(hr pf (b.tell (gr true ol.reverse)) b1 (k7.N []).bb none (γ+1) (Int.ofNat 3) _ (by decide) ha).1 ?_
 conv=>whnf
 split
 ·rename_i hd;exact absurd (of_decide_eq_true hd) hz
 ·conv=>whnf
  refine aj (by rw[List.length_reverse];unfold ah;omega) ?_;refine az (List.length_reverse) ?_;refine(hr pf (b.tell (gr true ol.reverse)).ask b1 (k7.N []).bb none (γ+1) (Int.ofNat ol.length) _ (by show(0:Int)<(ol.length:Int);omega) ha).1 ?_;refine az (show iA pf.gG (b.tell (gr true ol.reverse)).ask.ask.asked (Int.ofNat ol.length)=Int.ofNat j from hj) ?_
  conv=>whnf
  refine az (hx) ?_;refine aj (by unfold ah;omega) ?_
  conv=>whnf
  refine az (hi) ?_;refine aj (by unfold ah;omega) ?_;exact k _ _
theorem Ly{C:Cl}(hm:MarkC C)(hr:mh C){pf:PF}{ms:List D}{m:Int}{ol:List D}{b:Bk}(hb:b.told.length<=100000)(ha:pf.gG.natAbs<=ah)(qI:isNil ol.reverse=false)(hs:aA (.list ol.reverse))
  {j i:Nat} {x:Str} {g:Int} (hlen:ol.length<=1000) (hj:iA pf.gG b.ask.asked (Int.ofNat ol.length)=Int.ofNat j) (hx:idx ol.reverse (Int.ofNat j)=some (lF i x)) (hi:idx ms (Int.ofNat i)=some (.int g)) (hi9:i<=90) (hj9:j<=90):
  bS (Run C) pf (.tuple [.str bB,.bool false,.list ms,.int m]) (.O [] ol) b (.int g) (.N []) (b.tell (gr false ol.reverse)).ask:=by
 intro b1 γ Q k;obtain⟨l1,l2,l3⟩:=td (b:=false) hs;have Rr:0<ol.length:=by induction ol using List.casesOn with
  |nil=>cases qI
  |cons _ _=>exact Nat.succ_pos _
 refine⟨l1,?_⟩;refine⟨l2,?_⟩;refine⟨hs.b,?_⟩;refine⟨l3,?_⟩;refine(hm pf b b1 (k7.N []).bb none (γ+1) (gr false ol.reverse) _).1 hb ?_
 conv=>whnf
 refine az (qI) ?_;refine aj (by rw[List.length_reverse];unfold ah;omega) ?_;refine az (List.length_reverse) ?_;refine(hr pf (b.tell (gr false ol.reverse)) b1 (k7.N []).bb none (γ+1) (Int.ofNat ol.length) _ (by show(0:Int)<(ol.length:Int);omega) ha).1 ?_;refine az (show iA pf.gG (b.tell (gr false ol.reverse)).ask.asked (Int.ofNat ol.length)=Int.ofNat j from hj) ?_
 conv=>whnf
 refine az (hx) ?_;refine aj (by unfold ah;omega) ?_
 conv=>whnf
 refine az (hi) ?_;refine aj (by unfold ah;omega) ?_;exact k _ _
noncomputable def kK(C:Cl):Prop:=∀(t:Th) (σ:St) (Q:KV),σ.temps=[]->gI t->Q (.d (.str (bD t))) σ->C cW [.d (oH t)] σ Q
noncomputable def Fw(C:Cl):Prop:=∀(σ:St) (Q:KV),σ.temps=[]->Q (.d (.str (Aw (.ofNat 0)))) σ->C cW [.d Po] σ Q
theorem Rt{C:Cl}:kK (Run C):=by
 intro t σ Q Ik ht k;cases σ;rcases Ik with _|_
 have hp:=mS t (mf ht)
 induction t using Th.casesOn with
 |obj=>
  have l1:kh.length+(PyData.tuple [.int (.ofNat 1),.str Ba]).shown.length<=ah:=by decide+kernel
  refine⟨by decide,?_⟩;refine⟨⟨Nat.le_of_ble_eq_true rfl,Nat.le_of_ble_eq_true rfl,Nat.le_of_ble_eq_true rfl⟩,?_⟩;refine⟨hp.b,?_⟩;refine⟨l1,?_⟩;exact k
 |lit j=>
  have hp:aA (.tuple [.int j]):=mS (.lit j) (mf ht);have l1:iO.length+(PyData.tuple [.int j]).shown.length<=ah:=by
   have:=hp.2.2.2;have h4:iO.length=6:=by decide
   unfold ah;exact aZ this (il h4)
  refine⟨hp.b,?_⟩;refine⟨l1,?_⟩;exact k
theorem NS{C:Cl}:Fw (Run C):=by
 intro σ Q Ik k;cases σ;rcases Ik with _|_
 have hp:=yQ;have l1:kh.length+(PyData.tuple [.int (.ofNat 0),.str Ba]).shown.length<=ah:=by decide+kernel
 refine⟨by decide,?_⟩;refine⟨⟨Nat.le_of_ble_eq_true rfl,Nat.le_of_ble_eq_true rfl,Nat.le_of_ble_eq_true rfl⟩,?_⟩;refine⟨hp.b,?_⟩;refine⟨l1,?_⟩;exact k
noncomputable def mj:Option Th->Str
 |some t=>Au t
 |none=>Av
noncomputable def jw(b:Bk):Option Th->Bk
 |some t=>b.tell (Au t)
 |none=>(b.tell ik).tell Av
noncomputable def bO:Bk->List (Option Th)->Bk
 |b,[]=>b
 |b,a::l=>bO (jw b a) l
theorem tW(b:Bk)(a:Option Th):(jw b a).told.length<=b.told.length+2:=by
 rcases a with _|_<;>simp[jw,Bk.tell]
theorem rW:∀(l:List (Option Th)) (b:Bk),(bO b l).told.length<=b.told.length+2*l.length:=by
 intro l0
 induction l0 with
 |nil=>
  intro _;exact Nat.le_refl _
 |cons a l ih=>
  intro b;have h1:=ih (jw b a);have h2:=tW b a;show(bO (jw b a) l).told.length<=_;rw[List.length_cons];exact aZ h1 h2
theorem NT:dg=((fV++aQ)++(PyData.tuple []).shown)++aQ:=by decide+kernel
theorem Fx:dX=((da++aQ)++(PyData.tuple []).shown)++aQ:=by decide+kernel
theorem NU:dh=((dc++aQ)++(PyData.tuple []).shown)++aQ:=by decide+kernel
noncomputable def wF:List T:=[.fL (.cmp .eq (.var fU) (.c (.str xF))) [.expr (.append (.var cf) (.call aU [(.var aM),(.bin .add (.c (.str dg)) (.str (.lst .fz [(.call cW [(.var bh)])])))]))] [.asg (.x da) (.call aU [(.var aM),(.bin .add (.c (.str dX)) (.str (.lst .fz [(.bin .add (.c (.str nj)) (.str (.DM (.var bh) (some (.c (.int (.ofNat 2)))) none)))])))]),.expr (.append (.var cf) (.call aU [(.var aM),(.bin .add (.c (.str dh)) (.str (.lst .fz [(.var da)])))]))]]
noncomputable def rX(x:D)(rest:ak):ak:=(aM,.b 11)::(q9,.d x)::(cf,.t 0)::rest
noncomputable def GL(rest:ak):Prop:=rest=[]\/(∃a b,rest=[(fU,.d a),(bh,.d b)])\/(∃a b c,rest=[(fU,.d a),(bh,.d b),(da,.d c)])
theorem mT{s:Str}(h:kn s):aA (.list [.str s]):=mR (l:=[s]) (by simp) fun x hx=>by rw[List.mem_singleton]at hx;exact hx▸h
theorem Iy{C:Cl}(hs:kK C)(hm:MarkC C){x:D}{rest:ak}(d8:GL rest){a:Option Th}{pf:PF}{b0 b1:Bk}{bb bC:Option aL}{γ:Nat}{r:List D}{R:ak->St->Prop}{Q:KF}(ha:fu a)(hr:r.length<=1000)(hb:b1.told.length<=99990)
  (k:∀aG,GL aG->R (rX x aG) (eU pf b0 (jw b1 a) bb bC γ [.list [] (.str (mj a)::r)])):
  bind1 [fU,bh] (gU a) (rX x rest) fun d9=>gz (ex G C 59) wF d9 (eU pf b0 b1 bb bC γ [.list [] r]) (wo R Q):=by
 have jc:0+r.length<ah:=by unfold ah;exact ai hr
 rcases d8 with rfl|⟨a0,c0,rfl⟩|⟨a0,c0,d0,rfl⟩
 all_goals
  induction a using Option.casesOn with
  |some t=>
   have to:=ha t rfl;have hs1:=mT (ek to);have yL:dg.length+(PyData.list [.str (bD t)]).shown.length<=ah:=by
    have:=hs1.2.2.2;have h4:dg.length=10:=by decide
    unfold ah;exact aZ this (il h4)
   refine hs t (eU pf b0 b1 bb bC γ []) _ rfl to ?_;refine⟨hs1.b,?_⟩;refine⟨yL,?_⟩;refine(hm pf b0 b1 bb bC γ (dg++(PyData.list [.str (bD t)]).shown) _).2 (by omega) ?_;refine az (NT) ?_;refine⟨jc,?_⟩
   first
   |exact k [(fU,.d (.str xF)),(bh,.d (oH t))] (.inr (.inl ⟨_,_,rfl⟩))
   |exact k [(fU,.d (.str xF)),(bh,.d (oH t)),(da,.d d0)] (.inr (.inr ⟨_,_,_,rfl⟩))
  |none=>
   refine⟨by decide,?_⟩;refine⟨⟨Nat.le_of_ble_eq_true rfl,Nat.le_of_ble_eq_true rfl,Nat.le_of_ble_eq_true rfl⟩,?_⟩;refine⟨wD.b,?_⟩;refine⟨by decide+kernel,?_⟩;refine⟨(mT tU).b,?_⟩;refine⟨by decide+kernel,?_⟩;refine(hm pf b0 b1 bb bC γ (dX++(PyData.list [.str lE]).shown) _).2 (by omega) ?_;refine az (show dX++(PyData.list [.str lE]).shown=ik from by rw[Fx];rfl) ?_;refine⟨(mT rU).b,?_⟩;refine⟨by decide+kernel,?_⟩;refine(hm pf b0 (b1.tell ik) bb bC γ (dh++(PyData.list [.str ik]).shown) _).2 (by show b1.told.length+1<=_;exact ai hb) ?_;refine az (show dh++(PyData.list [.str ik]).shown=Av from by rw[NU];rfl) ?_;refine⟨jc,?_⟩;exact k [(fU,.d (.str iX)),(bh,.d tR),(da,.d (.str ik))] (.inr (.inr ⟨_,_,_,rfl⟩))
theorem Iz{C:Cl}(hs:kK C)(hm:MarkC C){x:D}{pf:PF}{b0:Bk}{bb bC:Option aL}{γ:Nat}{Q:KF}:∀(as:List (Option Th)) (rest:ak) (b1:Bk) (r:List D),(∀a∈as,fu a)->GL rest->r.length+as.length<=1000->b1.told.length+2*as.length<=99990->
  (∀aG,GL aG->Q .next (rX x aG) (eU pf b0 (bO b1 as) bb bC γ [.list [] ((as.map fun a=>PyData.str (mj a)).reverse++r)]))->
  forL (ex G C 59) [fU,bh] wF none (as.map gU) (rX x rest) (eU pf b0 b1 bb bC γ [.list [] r]) Q:=by
 intro l0
 induction l0 with
 |nil=>
  intro rest b1 r ha hr h1 h2 k;exact k rest hr
 |cons a as ih=>
  intro rest b1 r ha hr h1 h2 k;rw[List.length_cons]at h1 h2;refine az (List.map_cons) ?_;refine az (dm) ?_;have:=tW b1 a;refine Iy hs hm hr (ha a List.mem_cons_self) (ai h1) (ai h2) fun aG jc=>?_;refine ih aG (jw b1 a) _ (fun y hy=>ha y (List.mem_cons_of_mem _ hy)) jc (by rw[List.length_cons];exact ai h1) (aZ h2 this) fun gV um=>?_;have:=k gV um;rw[List.map_cons,List.reverse_cons,List.append_assoc]at this;exact this
noncomputable def Fy(C:Cl):Prop:=∀(as:List (Option Th)) (pf:PF) (b0 b1:Bk) (bb bC:Option aL) (γ:Nat) (Q:KV),wk as->b1.told.length<=99900->
 (∀τ,Q (.d (.list (as.map fun a=>PyData.str (mj a)))) (eU pf b0 (bO b1 as) bb bC γ τ))->C iG [.b 11,.d (.list (as.map gU))] (eU pf b0 b1 bb bC γ []) Q
theorem NV{C:Cl}(hs:kK C)(hm:MarkC C):Fy (Run C):=by
 intro as pf b0 b1 bb bC γ Q ha hb k;show gz (ex G C 60) ((P.code iG).take 1++(P.code iG).drop 1) [(aM,.b 11),(q9,.d (.list (as.map gU)))] (eU pf b0 b1 bb bC γ []) (fQ Q);refine bq fun R hR=>?_;refine hR (rX (.list (as.map gU)) []) (eU pf b0 b1 bb bC γ [.list [] []]) ?_;refine az (show(P.code iG).drop 1=[.gN [fU,bh] (.var q9) wF]++[.ret (some (.var cf))]from rfl) ?_;refine bq fun R2 tT=>?_;refine js fun F hF=>?_;have:=ha.1;refine aj (by rw[List.length_map];unfold ah;omega) ?_;refine hF _ _ _ ?_;refine Iz hs hm as [] b1 [] ha.2 (.inl rfl) (by rw[List.length_nil];exact ai this) (aZ hb (qe 2 this)) fun aG jc=>?_;refine tT _ _ ?_;rw[List.append_nil];have kk:∀τ,Q (.d (.list (as.map fun a=>PyData.str (mj a)).reverse.reverse)) (eU pf b0 (bO b1 as) bb bC γ τ):=fun τ=>by rw[List.reverse_reverse];exact k τ
 rcases jc with rfl|⟨a0,c0,rfl⟩|⟨a0,c0,d0,rfl⟩
 all_goals
  exact kk _
noncomputable def jb:Option Th->List Str
 |none=>[]
 |some t=>[bD t]
noncomputable def cq(ahead:List Str)(c:eR):List Str:=ahead++([bD c.pre]++(jb c.aP++c.args.map mj))
noncomputable def Ay:Option (Option Bool)->List D
 |none=>[]
 |some h=>[.str (qE h)]
noncomputable def i6(c:eR)(how:Option (Option Bool)):List D:=[.str (cE c.ent),.int (.ofNat (bA c.aP)),.int (.ofNat c.args.length)]++Ay how
noncomputable def eV(how:Option (Option Bool))(ahead:List Str)(c:eR):Str:=aO (match how with|none=>cu|some _=>dJ) (i6 c how) (cq ahead c)
theorem Fz:∀(e:Bool) (f:Fin 2) (c:Fin 3),∀how∈[none,some none,some (some true),some (some false)],aA (.tuple ([.str (cE e),.int (.ofNat f.1),.int (.ofNat c.1)]++Ay how)):=by unfold aA;decide+kernel
theorem NW:∀how:Option (Option Bool),how∈[none,some none,some (some true),some (some false)]
 |none=>by simp
 |some none=>by simp
 |some (some true)=>by simp
 |some (some false)=>by simp
theorem cT(f:Option Th):bA f<2:=by rcases f with _|_<;>simp[bA]
theorem nF{c:eR}(h:gq c)(how:Option (Option Bool)):aA (.tuple (i6 c how)):=
 Fz c.ent ⟨bA c.aP,cT _⟩ ⟨c.args.length,by have:=h.args.1;exact ai this⟩ how (NW how)
theorem NY{a:Option Th}(h:fu a):kn (mj a):=by
 induction a using Option.casesOn with
 |none=>exact Io
 |some t=>exact Iq (h t rfl)
theorem Az{a:Option Th}(h:fu a):∀s∈jb a,kn s:=by
 induction a using Option.casesOn with
 |none=>intro s hs;cases hs
 |some t=>intro s hs;rw[jb,List.mem_singleton]at hs;exact hs▸ek (h t rfl)
theorem AA{c:eR}(h:gq c){ahead:List Str}(ha:∀s∈ahead,kn s):∀s∈cq ahead c,kn s:=by
 intro s hs;unfold cq at hs;rcases List.mem_append.mp hs with hs|hs
 ·exact ha s hs
 ·rcases List.mem_append.mp hs with hs|hs
  ·rw[List.mem_singleton]at hs;exact hs▸ek h.pre
  ·rcases List.mem_append.mp hs with hs|hs
   ·exact Az h.aP s hs
   ·obtain⟨a,WO,rfl⟩:=List.mem_map.mp hs;exact NY (h.args.2 a WO)
theorem ko(f:Option Th):(jb f).length=bA f:=by rcases f with _|_<;>rfl
theorem iJ{c:eR}{ahead:List Str}:(cq ahead c).length=ahead.length+(1+(bA c.aP+c.args.length)):=by
 unfold cq;simp only[List.length_append,List.length_map,ko,List.length_singleton]
theorem lG{c:eR}(h:gq c){ahead:List Str}(ha:∀s∈ahead,kn s)(hl:ahead.length<=1):aA (.list ((cq ahead c).map PyData.str)):=by
 refine mR ?_ (AA h ha);refine az (iJ) ?_;have:=cT c.aP;have:=h.args.1;omega
theorem yh{x:Str}{p t:D}(h:x.length<=100)(hp:aA p)(ht:aA t):x.length+p.shown.length<=ah/\(x++p.shown).length+aQ.length<=ah/\((x++p.shown)++aQ).length+t.shown.length<=ah:=by
 have h1:=hp.2.2.2;have h2:=ht.2.2.2;have h3:aQ.length=1:=by decide
 rw[strLen_append (x++p.shown),strLen_append x];unfold ah;exact⟨aZ h h1,jG h h1 (il h3),uB h h1 h2 (il h3)⟩
theorem C0:fW=cu++aQ:=by decide+kernel
theorem GN:g9=dJ++aQ:=by decide+kernel
noncomputable def wG(C:Cl):Prop:=∀(how:Option (Option Bool)) (ahead:List Str) (l:Int) (c:eR) (pf:PF) (b0 b1:Bk) (bb bC:Option aL) (γ:Nat) (Q:KV),gq c->(∀s∈ahead,kn s)->ahead.length<=1->b1.told.length<=99000->
 (Q (.d .none) (eU pf b0 ((bO b1 c.args).tell (eV how ahead c)) bb bC γ []))->C kB [.b 11,.d (j6 l c),.d (.list (ahead.map PyData.str)),.d (.tuple (Ay how))] (eU pf b0 b1 bb bC γ []) Q
theorem NZ{C:Cl}(hs:kK C)(hm:MarkC C)(hw:Fy C):wG (Run C):=by
 intro how ahead l c pf b0 b1 bb bC γ Q hc Ru pV hb k;have hS:=lG hc Ru pV;have hP:=nF hc how;have h2:=hc.args.1;have hT:=rW c.args b1;rcases IA:c.aP with _|t
 ·have eT:(((ahead.map PyData.str++[PyData.str (bD c.pre)])++[])++c.args.map fun a=>PyData.str (mj a))=(cq ahead c).map PyData.str:=by
   unfold cq;rw[IA];simp[jb,Function.comp_def]
  rw[<-eT]at hS;have eP:i6 c how=[.str (cE c.ent),.int (.ofNat 0),.int (.ofNat (c.args.map gU).length)]++Ay how:=by
   unfold i6;rw[IA,List.length_map];rfl
  rw[eP]at hP;have go:∀x:Str,x.length<=100->eV how ahead c=((x++(PyData.tuple ([.str (cE c.ent),.int (.ofNat 0),.int (.ofNat (c.args.map gU).length)]++Ay how)).shown)++aQ)++(PyData.list (((ahead.map PyData.str++[PyData.str (bD c.pre)])++[])++c.args.map fun a=>PyData.str (mj a))).shown->
    Q (.d .none) (eU pf b0 ((bO b1 c.args).tell (((x++(PyData.tuple ([.str (cE c.ent),.int (.ofNat 0),.int (.ofNat (c.args.map gU).length)]++Ay how)).shown)++aQ)++(PyData.list (((ahead.map PyData.str++[PyData.str (bD c.pre)])++[])++c.args.map fun a=>PyData.str (mj a))).shown)) bb bC γ []):=fun x _ e=>by rw[<-e];exact k
  obtain⟨pre,ent,aP,args⟩:=c;subst IA;replace h2:args.length<=2:=h2;replace hT:(bO b1 args).told.length<=b1.told.length+2*args.length:=hT;refine hs pre (eU pf b0 b1 bb bC γ []) _ rfl hc.pre ?_;refine⟨by show(ahead.map PyData.str).length+1<=ah;rw[List.length_map];unfold ah;exact ai pV,?_⟩;refine⟨by show(ahead.map PyData.str++[PyData.str (bD pre)]).length+0<=ah;rw[List.length_append,List.length_map];simp only[List.length_singleton];unfold ah;exact ai pV,?_⟩;refine hw args pf b0 b1 bb bC γ _ hc.args (by omega) fun τ=>?_;refine⟨by show((ahead.map PyData.str++[PyData.str (bD pre)])++[]).length+(args.map fun a=>PyData.str (mj a)).length<=ah;rw[List.append_nil,List.length_append,List.length_map,List.length_map];simp only[List.length_singleton];unfold ah;exact aZ pV h2,?_⟩;refine aj (by rw[List.length_map];show args.length<=ah;unfold ah;omega) ?_
  induction how using Option.casesOn with
  |none=>
   obtain⟨l1,l2,l3⟩:=yh (x:=fW) (by decide) hP hS;refine⟨Nat.le_of_ble_eq_true rfl,?_⟩;refine⟨hP.b,?_⟩;refine⟨l1,?_⟩;refine⟨l2,?_⟩;refine⟨hS.b,?_⟩;refine⟨l3,?_⟩;refine(hm pf b0 (bO b1 args) bb bC γ _ _).2 (jG hb (qe 2 h2) hT) ?_;exact go fW (by decide) (by unfold eV aO;rw[C0,eP,<-eT])
  |some h=>
   obtain⟨l1,l2,l3⟩:=yh (x:=g9) (by decide) hP hS;refine⟨Nat.le_of_ble_eq_true rfl,?_⟩;refine⟨hP.b,?_⟩;refine⟨l1,?_⟩;refine⟨l2,?_⟩;refine⟨hS.b,?_⟩;refine⟨l3,?_⟩;refine(hm pf b0 (bO b1 args) bb bC γ _ _).2 (jG hb (qe 2 h2) hT) ?_;exact go g9 (by decide) (by unfold eV aO;rw[GN,eP,<-eT])
 ·have eT:(((ahead.map PyData.str++[PyData.str (bD c.pre)])++[PyData.str (bD t)])++c.args.map fun a=>PyData.str (mj a))=(cq ahead c).map PyData.str:=by
   unfold cq;rw[IA];simp[jb,Function.comp_def]
  rw[<-eT]at hS;have eP:i6 c how=[.str (cE c.ent),.int (.ofNat 1),.int (.ofNat (c.args.map gU).length)]++Ay how:=by
   unfold i6;rw[IA,List.length_map];rfl
  rw[eP]at hP;have go:∀x:Str,x.length<=100->eV how ahead c=((x++(PyData.tuple ([.str (cE c.ent),.int (.ofNat 1),.int (.ofNat (c.args.map gU).length)]++Ay how)).shown)++aQ)++(PyData.list (((ahead.map PyData.str++[PyData.str (bD c.pre)])++[PyData.str (bD t)])++c.args.map fun a=>PyData.str (mj a))).shown->
    Q (.d .none) (eU pf b0 ((bO b1 c.args).tell (((x++(PyData.tuple ([.str (cE c.ent),.int (.ofNat 1),.int (.ofNat (c.args.map gU).length)]++Ay how)).shown)++aQ)++(PyData.list (((ahead.map PyData.str++[PyData.str (bD c.pre)])++[PyData.str (bD t)])++c.args.map fun a=>PyData.str (mj a))).shown)) bb bC γ []):=fun x _ e=>by rw[<-e];exact k
  obtain⟨pre,ent,aP,args⟩:=c;subst IA;replace h2:args.length<=2:=h2;replace hT:(bO b1 args).told.length<=b1.told.length+2*args.length:=hT;have to:gI t:=hc.aP _ rfl;refine hs t (eU pf b0 b1 bb bC γ []) _ rfl to ?_;refine hs pre (eU pf b0 b1 bb bC γ []) _ rfl hc.pre ?_;refine⟨by show(ahead.map PyData.str).length+1<=ah;rw[List.length_map];unfold ah;exact ai pV,?_⟩;refine⟨by show(ahead.map PyData.str++[PyData.str (bD pre)]).length+1<=ah;rw[List.length_append,List.length_map];simp only[List.length_singleton];unfold ah;exact ai pV,?_⟩;refine hw args pf b0 b1 bb bC γ _ hc.args (by omega) fun τ=>?_;refine⟨by show((ahead.map PyData.str++[PyData.str (bD pre)])++[PyData.str (bD t)]).length+(args.map fun a=>PyData.str (mj a)).length<=ah;rw[List.length_append,List.length_append,List.length_map,List.length_map];simp only[List.length_singleton];unfold ah;exact aZ pV h2,?_⟩;refine aj (by rw[List.length_map];show args.length<=ah;unfold ah;omega) ?_
  induction how using Option.casesOn with
  |none=>
   obtain⟨l1,l2,l3⟩:=yh (x:=fW) (by decide) hP hS;refine⟨Nat.le_of_ble_eq_true rfl,?_⟩;refine⟨hP.b,?_⟩;refine⟨l1,?_⟩;refine⟨l2,?_⟩;refine⟨hS.b,?_⟩;refine⟨l3,?_⟩;refine(hm pf b0 (bO b1 args) bb bC γ _ _).2 (by omega) ?_;exact go fW (by decide) (by unfold eV aO;rw[C0,eP,<-eT])
  |some h=>
   obtain⟨l1,l2,l3⟩:=yh (x:=g9) (by decide) hP hS;refine⟨Nat.le_of_ble_eq_true rfl,?_⟩;refine⟨hP.b,?_⟩;refine⟨l1,?_⟩;refine⟨l2,?_⟩;refine⟨hS.b,?_⟩;refine⟨l3,?_⟩;refine(hm pf b0 (bO b1 args) bb bC γ _ _).2 (by omega) ?_;exact go g9 (by decide) (by unfold eV aO;rw[GN,eP,<-eT])
theorem AB{t:ak->St->(Bool->St->Prop)->Prop}{h:Ex}{b:List T}{n:Nat}{ê:ak}{σ:St}{Q:KF}
  (k:∀W:ak->St->Prop,(∀d9 aF,za t h b n d9 aF Q->W d9 aF)->t ê σ fun c ab=>match c with|false=>Q .next ê ab|true=>gz h b ê ab (wo W Q)):za t h b (n+1) ê σ Q:=by
 have:=k (fun d9 aF=>za t h b n d9 aF Q) fun _ _ x=>x;exact this
structure PX where
 pf:PF
 C2:Cl
 b1:Bk
 Q:KF
 NA:Bk->Prop
noncomputable def PX.C(X:PX):Cl:=Run (Run X.C2)
structure nN(X:PX):Prop where
 gG:X.pf.gG.natAbs<=ah
 na:∀(b:Bk) (ê:ak) (sk:k7) (γ:Nat),X.NA b->X.Q (.ret (.d (.str bz))) ê (eU X.pf b X.b1 sk.bb sk.bC γ [])
 len:X.pf.R.length<=90000
noncomputable def wH:E:=.cmp .ne (.sub (.sub (.var bT) (.var aW)) (.c (.int (.ofNat 0)))) (.c (.str fb))
noncomputable def wI:List T:=[.asg (.x ni) (.call sR [(.var aM),(.sub (.var bT) (.var aW)),(.var s_stack)]),.fL (.cmp .eq (.var ni) (.neg 0)) [.ret (some (.c (.str bz)))] [],.asg (.x aW) (.ite (.cmp .is (.var ni) (.c .none)) (.bin .add (.var aW) (.c (.int (.ofNat 1)))) (.var ni))]
noncomputable def pe(R:List D)(at_:Nat):Option D->ak
 |none=>[(aM,.b 10),(bT,.d (.list R)),(s_stack,.b 14),(aW,.d (.int (.ofNat at_)))]
 |some g=>[(aM,.b 10),(bT,.d (.list R)),(s_stack,.b 14),(aW,.d (.int (.ofNat at_))),(ni,.d g)]
noncomputable def bP(X:PX)(at_:Nat)(sk:k7)(b:Bk):Prop:=∀(n:Nat) (g:Option D) (γ:Nat),X.pf.R.length<n+at_->
 za (DR (ev G X.C 59) G.tab 59 wH) (ex G X.C 59) wI n (pe X.pf.R at_ g) (eU X.pf b X.b1 sk.bb sk.bC γ []) X.Q
theorem k5{α:Type}:∀{l:List α} {i:Nat} {x:α},aq l i=some x->i<l.length
 |[],_,_,h=>by cases h
 |_::_,0,_,_=>Nat.succ_pos _
 |_::l,i+1,_,h=>Nat.succ_lt_succ (k5 (l:=l) h)
theorem aX{X:PX}(hX:nN X){at_ at':Nat}{w:Str}{xs:List D}{sk xB:k7}{b b':Bk}{goal:D}(uu:idx X.pf.R (Int.ofNat at_)=some (.tuple (.str w::xs)))(hw:eZ w fb=false)(pY:at_<at')
  (hd:bS X.C X.pf (.tuple (.str w::xs)) sk b goal xB b') (hg:(goal=.none/\at'=at_+1)\/goal=.int (.ofNat at')) (k:bP X at' xB b'):bP X at_ sk b:=by
 intro n g γ hn;have hl:at_<X.pf.R.length:=k5 uu;have DD:=hX.len
 induction n using Nat.casesAuxOn with
 |zero=>omega
 |succ n=>
  refine AB fun W hW=>?_
  induction g using Option.casesOn with
  |none=>
   conv=>whnf
   refine az (uu) ?_;refine aj (by unfold ah;exact aZ hl DD (aZ hl DD)) ?_
   conv=>whnf
   refine az (hw) ?_
   conv=>whnf
   refine az (uu) ?_
   conv=>whnf
   refine aj (by unfold ah;exact aZ hl DD) ?_
   conv=>whnf
   refine hd X.b1 γ _ fun gE τ=>?_;rcases hg with⟨rfl,rfl⟩|rfl
   ·conv=>whnf
    refine hW (pe X.pf.R (at_+1) (some .none)) (eU X.pf b' X.b1 xB.bb xB.bC gE []) ?_;exact k n _ gE (ai hn)
   ·conv=>whnf
    refine hW (pe X.pf.R at' (some (.int (.ofNat at')))) (eU X.pf b' X.b1 xB.bb xB.bC gE []) ?_;exact k n _ gE (aZ pY hn)
  |some g=>
   conv=>whnf
   refine az (uu) ?_;refine aj (by unfold ah;omega) ?_
   conv=>whnf
   refine az (hw) ?_
   conv=>whnf
   refine az (uu) ?_;refine aj (by unfold ah;omega) ?_
   conv=>whnf
   refine hd X.b1 γ _ fun gE τ=>?_;rcases hg with⟨rfl,rfl⟩|rfl
   ·conv=>whnf
    refine hW (pe X.pf.R (at_+1) (some .none)) (eU X.pf b' X.b1 xB.bb xB.bC gE []) ?_;exact k n _ gE (ai hn)
   ·conv=>whnf
    refine hW (pe X.pf.R at' (some (.int (.ofNat at')))) (eU X.pf b' X.b1 xB.bb xB.bC gE []) ?_;exact k n _ gE (aZ pY hn)
theorem N0{X:PX}(hX:nN X){at_:Nat}{w:Str}{xs:List D}{sk xB:k7}{b b':Bk}(uu:idx X.pf.R (Int.ofNat at_)=some (.tuple (.str w::xs)))(hw:eZ w fb=false)
  (hd:bS X.C X.pf (.tuple (.str w::xs)) sk b (.int (.negSucc 0)) xB b') (k:X.NA b'):bP X at_ sk b:=by
 intro n g γ hn;have hl:at_<X.pf.R.length:=k5 uu;have DD:=hX.len
 induction n using Nat.casesAuxOn with
 |zero=>omega
 |succ n=>
  refine AB fun W hW=>?_;rcases g with _|_
  all_goals
   conv=>whnf
   refine az (uu) ?_
   conv=>whnf
   refine aj (by unfold ah;omega) ?_
   conv=>whnf
   refine az (hw) ?_
   conv=>whnf
   refine az (uu) ?_;refine aj (by unfold ah;omega) ?_
   conv=>whnf
   refine hd X.b1 γ _ fun gE τ=>?_;exact hX.na b' _ xB gE k
noncomputable def gH(R:List D)(M:Nat->Int)(a:Nat):List Row->Prop
 |[]=>True
 |x::new=>gH R M a new/\idx R (Int.ofNat (a+new.length))=some (bV M x)
theorem cw{R:List D}{M:Nat->Int}{a:Nat}{c1:List Row}:∀{c2:List Row},gH R M a (c2++c1)->gH R M a c1/\gH R M (a+c1.length) c2:=by
 intro l0
 induction l0 with
 |nil=>
  intro h;exact⟨h,trivial⟩
 |cons x c2 ih=>
  intro h;have h1:=h.1;have h2:=h.2;have Rv:=ih h1;have h3:=Rv.1;have h4:=Rv.2;clear Rv;refine⟨h3,h4,?_⟩;have:a+(c2.append c1).length=a+c1.length+c2.length:=by
   show a+(c2++c1).length=_;rw[List.length_append];omega
  rw[this]at h2;exact h2
noncomputable def bF:Str:=aO iC [] []
noncomputable def fP:Str:=aO gf [] []
noncomputable def jU:Str:=aO fM [] []
noncomputable def AD:Str:=aO qU [] []
noncomputable def te:Str:=aO gk [.str aI] []
noncomputable def stepT(l:Int):Str:=aO m8 [.int l] []
theorem jV:aA (.list (([]:List Str).reverse.map PyData.str)):=by unfold aA;decide+kernel
theorem Rx:aA (.tuple [.str aI]):=by unfold aA;decide+kernel
theorem AE:∀u,aA (.tuple [.bool u]):=by unfold aA;decide+kernel
theorem GO:∀fm,aA (.tuple [dZ fm]):=by unfold aA;decide+kernel
section
variable{X:PX}{M:Nat->Int}{a:Nat}{b:Bk}{st:List Str}
theorem eW(hX:nN X){x:D}(h:idx X.pf.R (Int.ofNat a)=some x):a<90000:=Nat.lt_of_lt_of_le (k5 h) hX.len
theorem wJ(hX:nN X)(h:idx X.pf.R (Int.ofNat a)=some (bV M .cP))(hb:b.told.length<=a)(k:bP X (a+1) (.N []) (b.tell bF)):bP X a (.N []) b:=
 have hl:=eW hX h
 aX hX h (by decide) (Nat.lt_succ_self a) (Fp eY (tk:=[]) (rest:=[]) (aZ hb hl) rfl (by decide) jV jv) (.inl ⟨rfl,rfl⟩) k
theorem tX(hX:nN X)(h:idx X.pf.R (Int.ofNat a)=some (bV M .i5))(hb:b.told.length<=a)(k:bP X (a+1) (.N []) (b.tell fP)):bP X a (.N []) b:=
 have hl:=eW hX h
 aX hX h (by decide) (Nat.lt_succ_self a) (yf eY (tk:=[]) (rest:=[]) (aZ hb hl) rfl (by decide) jV jv) (.inl ⟨rfl,rfl⟩) k
theorem wK(hX:nN X)(h:idx X.pf.R (Int.ofNat a)=some (bV M .bL))(hb:b.told.length<=a)(k:bP X (a+1) (.N []) (b.tell jU)):bP X a (.N []) b:=
 have hl:=eW hX h
 aX hX h (by decide) (Nat.lt_succ_self a) (Ax eY (tk:=[]) (rest:=[]) (aZ hb hl) rfl (by decide) jV jv) (.inl ⟨rfl,rfl⟩) k
theorem Px(hX:nN X)(h:idx X.pf.R (Int.ofNat a)=some (bV M .arm))(hb:b.told.length<=a)(k:bP X (a+1) (.N []) (b.tell AD)):bP X a (.N []) b:=
 have hl:=eW hX h
 aX hX h (by decide) (Nat.lt_succ_self a) (NO eY (tk:=[]) (rest:=[]) (by omega) rfl (by decide) jV jv) (.inl ⟨rfl,rfl⟩) k
theorem N1(hX:nN X)(h:idx X.pf.R (Int.ofNat a)=some (bV M .block))(hb:b.told.length<=a)(k:bP X (a+1) (.N []) (b.tell te)):bP X a (.N []) b:=
 have hl:=eW hX h
 aX hX h (by decide) (Nat.lt_succ_self a) (Ir eY (tk:=[]) (rest:=[]) (by omega) rfl (by decide) jV Rx) (.inl ⟨rfl,rfl⟩) k
theorem Ry(hX:nN X){l:Int}(hl:Ln l)(h:idx X.pf.R (Int.ofNat a)=some (bV M (.step l)))(hb:b.told.length<=a)(k:bP X (a+1) (.N []) (b.tell (stepT l))):bP X a (.N []) b:=
 have xw:=eW hX h
 aX hX h (by decide) (Nat.lt_succ_self a) (Ls eY (tk:=[]) (rest:=[]) (by omega) rfl (by decide) jV (yN hl)) (.inl ⟨rfl,rfl⟩) k
theorem yi(hX:nN X){fm:Bool}(h:idx X.pf.R (Int.ofNat a)=some (bV M (.cL (dZ fm))))(hb:b.told.length<=a)(k:bP X (a+1) (.N []) (b.tell (aO cO [dZ fm] []))):bP X a (.N []) b:=
 have xw:=eW hX h
 aX hX h (by decide) (Nat.lt_succ_self a) (ur eY (tk:=[]) (rest:=[]) (by omega) rfl (by decide) jV (GO fm)) (.inl ⟨rfl,rfl⟩) k
theorem wL(hX:nN X){m p:Nat}(h:idx X.pf.R (Int.ofNat a)=some (bV M (.gJ m)))(hm:M m=Int.ofNat p)(hp:a<p){sk:k7}(k:bP X p sk b):bP X a sk b:=by
 have h':idx X.pf.R (Int.ofNat a)=some (.tuple [.str jL,.int (Int.ofNat p)]):=by rw[<-hm];exact h
 exact aX hX h' (by decide) hp Lr (.inr rfl) k
theorem Py(t:Th):∃w xs,bV M (dD t)=.tuple (.str w::xs)/\eZ w fb=false/\Y9 t=.tuple (.str w::xs):=by
 rcases t with _|_
 ·exact⟨iE,_,rfl,by decide,rfl⟩
 ·exact⟨j2,_,rfl,by decide,rfl⟩
theorem C3(hX:nN X){t:Th}(ht:gI t)(kI:st.length<=100)(h:idx X.pf.R (Int.ofNat a)=some (bV M (dD t)))(k:bP X (a+1) (.N (bD t::st)) b):bP X a (.N st) b:=by
 refine bc fun bf=>?_;obtain⟨w,xs,e,hw,e2⟩:=Py (M:=M) t;refine bf ?_;have:=NP (C:=Run X.C2) (pf:=X.pf) (b:=b) ht (st:=st) (by omega);rw[e2]at this;exact aX hX (h.trans (congrArg some e)) hw (Nat.lt_succ_self a) this (.inl ⟨rfl,rfl⟩) k
theorem Lz(hX:nN X){t:Th}{ol:List D}(ht:gI t)(h:idx X.pf.R (Int.ofNat a)=some (bV M (dD t)))(k:bP X (a+1) (.O [bD t] ol) b):bP X a (.O [] ol) b:=by
 refine bc fun bf=>?_;obtain⟨w,xs,e,hw,e2⟩:=Py (M:=M) t;refine bf ?_;have:=NQ (C:=Run X.C2) (pf:=X.pf) (b:=b) (ol:=ol) ht;rw[e2]at this;exact aX hX (h.trans (congrArg some e)) hw (Nat.lt_succ_self a) this (.inl ⟨rfl,rfl⟩) k
theorem Rz(hX:nN X)(kI:st.length<=100)(h:idx X.pf.R (Int.ofNat a)=some (bV M (.obj (.ofNat 0) Ba)))(k:bP X (a+1) (.N (Aw (.ofNat 0)::st)) b):bP X a (.N st) b:=
 aX hX h (by decide) (Nat.lt_succ_self a) (CY yQ (by omega)) (.inl ⟨rfl,rfl⟩) k
theorem oQ{s:Str}(h:kn s):aA (.list (([s]:List Str).reverse.map PyData.str)):=mR (l:=[s]) (by simp) fun x hx=>by rw[List.mem_singleton]at hx;exact hx▸h
theorem Vw(hX:nN X){o:Option Th}(ho:fu o)(kI:st.length<=90)(h:gH X.pf.R M a (ta o))(hb:b.told.length<=a)(k:bP X (a+(ta o).length) (.N (mj o::st)) (jw b o)):bP X a (.N st) b:=by
 induction o using Option.casesOn with
 |some t=>
  obtain⟨⟨_,h1⟩,h2⟩:=h;have ht:=ho t rfl;refine C3 hX ht (by omega) h1 ?_;have hl:=eW hX h2;refine aX hX h2 (by decide) (Nat.lt_succ_self _) (Fo eY (tk:=[bD t]) (rest:=st) (aZ hb hl) rfl (by rw[List.length_append,List.length_singleton];exact ai kI) (oQ (ek ht)) jv) (.inl ⟨rfl,rfl⟩) ?_;exact k
 |none=>
  obtain⟨⟨⟨_,h1⟩,h2⟩,h3⟩:=h;have hl:=eW hX h3;have e3:a+([.target,.place]:List Row).length=a+2:=rfl;rw[e3]at hl;refine aX hX h1 (by decide) (Nat.lt_succ_self _) (Fu (by omega)) (.inl ⟨rfl,rfl⟩) ?_;refine aX hX h2 (by decide) (Nat.lt_succ_self _) (Fn eY (tk:=[lE]) (rest:=st) (aZ hb hl) rfl (by rw[List.length_append,List.length_singleton];exact ai kI) (oQ tU) jv) (.inl ⟨rfl,rfl⟩) ?_;refine aX hX h3 (by decide) (Nat.lt_succ_self _) (ye eY (tk:=[ik]) (rest:=st) (by show b.told.length+1<=_;exact aZ hb hl) rfl (by rw[List.length_append,List.length_singleton];exact ai kI) (oQ rU) jv) (.inl ⟨rfl,rfl⟩) ?_;exact k
theorem wM(o:Option Th)(h:b.told.length<=a):(jw b o).told.length<=a+(ta o).length:=by
 induction o using Option.casesOn with
 |some t=>show b.told.length+1<=a+2;exact ai h
 |none=>show b.told.length+1+1<=a+3;exact ai h
theorem tY:∀(as:List (Option Th)) {a:Nat} {b:Bk},b.told.length<=a->(bO b as).told.length<=a+(d7 as).length:=by
 intro l0
 induction l0 with
 |nil=>
  intro _ _ h;exact h
 |cons o as ih=>
  intro a b h;have:=ih (wM o h);show(bO (jw b o) as).told.length<=a+(d7 as++ta o).length;rw[List.length_append];exact ai this
theorem RA(hX:nN X):∀(as:List (Option Th)) (a:Nat) (st:List Str) (b:Bk),(∀o∈as,fu o)->st.length+as.length<=90->gH X.pf.R M a (d7 as)->b.told.length<=a->
  bP X (a+(d7 as).length) (.N ((as.map mj).reverse++st)) (bO b as)->bP X a (.N st) b:=by
 intro l0
 induction l0 with
 |nil=>
  intro a st b _ _ _ _ k;exact k
 |cons o as ih=>
  intro a st b ho kI h hb k;rw[List.length_cons]at kI;obtain⟨h1,h2⟩:=cw (c1:=ta o) (c2:=d7 as) h;refine Vw hX (ho o List.mem_cons_self) (ai kI) h1 hb ?_;refine ih _ (mj o::st) (jw b o) (fun x hx=>ho x (List.mem_cons_of_mem _ hx)) (by rw[List.length_cons];exact ai kI) h2 (wM o hb) ?_;have e1:a+(ta o).length+(d7 as).length=a+(d7 (o::as)).length:=by
   show _=a+(d7 as++ta o).length;rw[List.length_append];omega
  have e2:(as.map mj).reverse++mj o::st=((o::as).map mj).reverse++st:=by simp
  refine az (e1) ?_;refine az (e2) ?_;exact k
theorem LA(hX:nN X){f:Option Th}(hf:fu f)(kI:st.length<=90)(h:gH X.pf.R M a (cg f))(k:bP X (a+bA f) (.N (jb f++st)) b):bP X a (.N st) b:=by
 induction f using Option.casesOn with
 |none=>exact k
 |some t=>exact C3 hX (hf t rfl) (by omega) h.2 k
theorem gu(f:Option Th):(cg f).length=bA f:=by rcases f with _|_<;>rfl
theorem LB(hX:nN X){c:eR}(hc:gq c)(kI:st.length<=50)(h:gH X.pf.R M a (aw c))(hb:b.told.length<=a)
  (k:bP X (a+(aw c).length) (.N ((cq st.reverse c).reverse)) (bO b c.args)):bP X a (.N st) b:=by
 unfold aw at h;obtain⟨h1,h2⟩:=cw h;obtain⟨h3,h4⟩:=cw h1;have h2c:=hc.args.1;have hf:=cT c.aP;refine C3 hX hc.pre (by omega) h3.2 ?_;refine LA hX hc.aP (by rw[List.length_cons];exact ai kI) h4 ?_;have e:a+(cg c.aP++[dD c.pre]).length=a+1+bA c.aP:=by
  rw[List.length_append,gu];simp only[List.length_singleton];omega
 rw[e]at h2;have e0:a+0+1=a+1:=rfl;refine RA hX c.args _ _ b hc.args.2 (by rw[List.length_append,ko,List.length_cons];exact jG kI h2c hf (ai hf (ai hf))) h2 (by show _<=a+1+bA c.aP;exact ai hb) ?_;have e1:a+1+bA c.aP+(d7 c.args).length=a+(aw c).length:=by
  unfold aw;rw[List.length_append,List.length_append,gu];simp only[List.length_singleton];omega
 have e2:(c.args.map mj).reverse++(jb c.aP++bD c.pre::st)=(cq st.reverse c).reverse:=by
  unfold cq;cases c.aP<;>simp[jb]
 have e1':a+([]:List Row).length+1+bA c.aP+(d7 c.args).length=a+(aw c).length:=e1;refine az (e2) ?_;rw[<-e1]at k;exact k
end
section
set_option genCtorIdx false
set_option genCtorIdx true in
inductive Way where
 |done|left|gj
noncomputable def IB:Way->D
 |.done=>.none
 |.left=>.str eM
 |.gj=>.str bz
noncomputable def tf(C:Cl)(pf:PF)(x:D)(b:Bk)(w:Way)(b':Bk):Prop:=∀(b0:Bk) (bb bC:Option aL) (γ:Nat) (Q:KV),
 (∀τ,Q (.d (IB w)) (eU pf b0 b' bb bC γ τ))->C lr [.b 11,.d x] (eU pf b0 b bb bC γ []) Q
noncomputable def oR(C:Cl)(pf:PF)(ss:List D)(b:Bk)(w:Way)(b':Bk):Prop:=∀(b0:Bk) (bb bC:Option aL) (γ:Nat) (Q:KV),
 (∀τ,Q (.d (IB w)) (eU pf b0 b' bb bC γ τ))->C gp [.b 11,.d (.list ss)] (eU pf b0 b bb bC γ []) Q
noncomputable def N2(C:Cl)(pf:PF)(x:D)(b:Bk)(w:Way)(b':Bk):Prop:=∀(b0:Bk) (bb bC:Option aL) (γ:Nat) (Q:KV),
 (∀τ,Q (.d (IB w)) (eU pf b0 b' bb bC γ τ))->C aV [.b 11,.d x] (eU pf b0 b bb bC γ []) Q
theorem iR:dy=bF:=by decide+kernel
theorem jW:dY=fP:=by decide+kernel
theorem wN:gx=jU:=by decide+kernel
theorem GP:fX=AD:=by decide+kernel
theorem IC:eN=te:=by decide+kernel
theorem ID:qo=bE++aQ:=by decide+kernel
theorem wO:n8=bw++aQ:=by decide+kernel
theorem lV:hY=cz++aQ:=by decide+kernel
theorem th:cv=((d5++aQ)++(PyData.tuple []).shown)++aQ:=by decide+kernel
theorem yR(a b c:Str):(a++b)++c=a++(b++c):=by
 cases a;cases b;cases c;show Str.mk _=Str.mk _
 congr 1
 exact Array.append_assoc
theorem GQ:dC=aQ++(PyData.list (([]:List Str).map PyData.str)).shown:=by decide+kernel
theorem IE:dj=cO++aQ:=by decide+kernel
theorem LC:hI=m8++aQ:=by decide+kernel
section
variable{C:Cl}{pf:PF}{b:Bk}
theorem RB{l:Int}:tf (Run C) pf (cy (.null l)) b .done b:=by
 intro b0 bb bC γ Q k;exact k _
theorem Vx{l:Int}:tf (Run C) pf (cy (.ret l)) b .left b:=by
 intro b0 bb bC γ Q k;exact k _
theorem N3(hm:MarkC C)(hs:kK C){l:Int}{t:Th}{u:Bool}(ht:gI t)(hb:b.told.length<=99000):
  tf (Run C) pf (cy (.dr l t u)) b .done ((b.tell bF).tell (aO bE [.bool u] [bD t])):=by
 intro b0 bb bC γ Q k;have hP:=AE u;have hS:=mT (ek ht);refine bc fun bf=>?_;obtain⟨l1,l2,l3⟩:=yh (x:=qo) (by decide) hP hS;refine bf ?_;refine(hm pf b0 b bb bC γ _ _).2 (by omega) ?_;refine az (iR) ?_;refine⟨hP.b,?_⟩;refine⟨l1,?_⟩;refine⟨l2,?_⟩;refine hs t (eU pf b0 (b.tell bF) bb bC γ []) _ rfl ht ?_;refine⟨hS.b,?_⟩;refine⟨l3,?_⟩;refine(hm pf b0 (b.tell bF) bb bC γ _ _).2 (by show b.told.length+1<=_;exact ai hb) ?_;refine az (ID) ?_;exact k _
noncomputable def pG:Bk->List Th->Bk
 |b,[]=>b
 |b,t::ts=>pG (b.tell (aO d5 [] [bD t])) ts
theorem AF(hm:MarkC C)(hs:kK C){l:Int}{ts:List Th}(hts:ts.length<=2)(ht:∀t∈ts,gI t)(hb:b.told.length<=98000):
  tf (Run C) pf (cy (.abort l ts)) b .done (pG b ts):=by
 intro b0 bb bC γ Q k;have S:∀t,gI t->(PyData.list [.str (bD t)]).showable=true/\(PyData.list [.str (bD t)]).hasDict=false/\(PyData.list [.str (bD t)]).depth<=20/\(PyData.list [.str (bD t)]).shown.length<=ah:=fun t h=>(mT (ek h)).b;have L:∀t,gI t->cv.length+(PyData.list [.str (bD t)]).shown.length<=ah:=fun t h=>by
  have:=(mT (ek h)).2.2.2;have h4:cv.length=9:=by decide
  unfold ah;exact aZ this (il h4)
 match ts,hts,ht,k with
 |[],_,_,k=>
  exact k _
 |[t],_,ht,k=>
  have t1:=ht t (by simp);refine hs t (eU pf b0 b bb bC γ []) _ rfl t1 ?_;refine⟨S t t1,?_⟩;refine⟨L t t1,?_⟩;refine(hm pf b0 b bb bC γ (cv++(PyData.list [.str (bD t)]).shown) _).2 (by omega) ?_;refine az (th) ?_;exact k _
 |[t,u],_,ht,k=>
  have t1:=ht t (by simp);have t2:=ht u (by simp);refine hs t (eU pf b0 b bb bC γ []) _ rfl t1 ?_;refine⟨S t t1,?_⟩;refine⟨L t t1,?_⟩;refine(hm pf b0 b bb bC γ (cv++(PyData.list [.str (bD t)]).shown) _).2 (by omega) ?_;refine az (show cv++(PyData.list [.str (bD t)]).shown=aO d5 [] [bD t]from by rw[th];rfl) ?_;refine hs u (eU pf b0 (b.tell (aO d5 [] [bD t])) bb bC γ []) _ rfl t2 ?_;refine⟨S u t2,?_⟩;refine⟨L u t2,?_⟩;refine(hm pf b0 (b.tell (aO d5 [] [bD t])) bb bC γ (cv++(PyData.list [.str (bD u)]).shown) _).2 (by show b.told.length+1<=_;exact ai hb) ?_;refine az (th) ?_;exact k _
 |_::_::_::_,h,_,_=>exact absurd h (by simp)
theorem w_call(hw:wG C){l:Int}{c:eR}(hc:gq c)(hb:b.told.length<=99000):tf (Run C) pf (cy (.call l c)) b .done ((bO b c.args).tell (eV none [] c)):=by
 intro b0 bb bC γ Q k;refine hw none [] l c pf b0 b bb bC γ _ hc (fun s hs=>by rcases hs with _|_) (by decide) hb ?_;exact k _
noncomputable def N4(w:Way)(b:Bk)(x:Str):Bk:=match w with
 |.gj=>b
 |_=>b.tell x
noncomputable def Vy(w:Way):Way:=match w with
 |.gj=>.gj
 |_=>.done
noncomputable def wQ(e:Bool)(aP:Option Th)(fm:Bool):List D:=[.str (cE e),.int (.ofNat (bA aP)),dZ fm]
theorem C4:∀(e fm:Bool) (f:Fin 2),aA (.tuple [.str (cE e),.int (.ofNat f.1),dZ fm]):=by unfold aA;decide+kernel
theorem C8{f:Option Th}(h:fu f):aA (.list ((jb f).map PyData.str)):=mR (by have:=cT f;rw[ko];exact ai this) (Az h)
noncomputable def uM(b:Bk)(e:Bool)(aP:Option Th)(fm:Bool):Bk:=(b.tell bF).tell (aO bw (wQ e aP fm) (jb aP))
theorem Vz(hm:MarkC C)(hs:kK C){l:Int}{e:Bool}{aP:Option Th}{fm:Bool}{body:List D}{w:Way}{b':Bk}(hf:fu aP)(hb:b.told.length<=99000)(Bq:b'.told.length<=99000)
  (hw:oR C pf body (uM b e aP fm) w b'):tf (Run C) pf (cy (.acc l e aP fm body)) b (Vy w) (N4 w b' fP):=by
 intro b0 bb bC γ Q k;have hP:aA (.tuple (wQ e aP fm)):=C4 e fm ⟨bA aP,cT _⟩;have hS:=C8 hf;obtain⟨l1,l2,l3⟩:=yh (x:=n8) (by decide) hP hS;have fin:∀(R:ak->St->Prop),(∀d9,R d9 (eU pf b0 (uM b e aP fm) bb bC γ []))->True:=fun _ _=>trivial;rcases aP with _|DF
 ·conv=>whnf
  refine(hm pf b0 b bb bC γ _ _).2 (by omega) ?_;refine az (iR) ?_;refine⟨hP.b,?_⟩;refine⟨l1,?_⟩;refine⟨l2,?_⟩;refine⟨hS.b,?_⟩;refine⟨l3,?_⟩;refine(hm pf b0 (b.tell bF) bb bC γ _ _).2 (by show b.told.length+1<=_;exact ai hb) ?_;refine az (wO) ?_;refine hw b0 bb bC γ _ fun τ=>?_;rcases w with _|_
  ·conv=>whnf
   refine(hm pf b0 b' bb bC γ _ _).2 (by omega) ?_;refine az (jW) ?_;exact k _
  ·conv=>whnf
   refine(hm pf b0 b' bb bC γ _ _).2 (by omega) ?_;refine az (jW) ?_;exact k _
  ·conv=>whnf
   exact k _
 ·have to:gI DF:=hf _ rfl;refine hs DF (eU pf b0 b bb bC γ []) _ rfl to ?_;refine(hm pf b0 b bb bC γ _ _).2 (by omega) ?_;refine az (iR) ?_;refine⟨hP.b,?_⟩;refine⟨l1,?_⟩;refine⟨l2,?_⟩;refine⟨hS.b,?_⟩;refine⟨l3,?_⟩;refine(hm pf b0 (b.tell bF) bb bC γ _ _).2 (by show b.told.length+1<=_;exact ai hb) ?_;refine az (wO) ?_;refine hw b0 bb bC γ _ fun τ=>?_;rcases w with _|_
  ·conv=>whnf
   refine(hm pf b0 b' bb bC γ _ _).2 (by omega) ?_;refine az (jW) ?_;exact k _
  ·conv=>whnf
   refine(hm pf b0 b' bb bC γ _ _).2 (by omega) ?_;refine az (jW) ?_;exact k _
  ·conv=>whnf
   exact k _
end
end
section
variable{C:Cl}{pf:PF}{b:Bk}
theorem N5(hm:MarkC C){l:Int}{body:List D}{w:Way}{b':Bk}(hb:b.told.length<=99000)(Bq:b'.told.length<=99000)
  (hw:oR C pf body ((b.tell te).tell AD) w b'):tf (Run C) pf (cy (.block l body)) b w (N4 w b' jU):=by
 intro b0 bb bC γ Q k;refine(hm pf b0 b bb bC γ _ _).2 (by omega) ?_;refine az (IC) ?_;refine(hm pf b0 (b.tell te) bb bC γ _ _).2 (by show b.told.length+1<=_;exact ai hb) ?_;refine az (GP) ?_;refine hw b0 bb bC γ _ fun τ=>?_;rcases w with _|_
 ·conv=>whnf
  refine(hm pf b0 b' bb bC γ _ _).2 (by omega) ?_;refine az (wN) ?_;exact k _
 ·conv=>whnf
  refine(hm pf b0 b' bb bC γ _ _).2 (by omega) ?_;refine az (wN) ?_;exact k _
 ·conv=>whnf
  exact k _
noncomputable def qT:Bool->List Str
 |false=>[]
 |true=>[Aw (.ofNat 0)]
noncomputable def qN:Bool->Nat
 |false=>0
 |true=>1
noncomputable def lH(q:Bool)(aP:Option Th)(u:Bool):List D:=[.str qm,.int (.ofNat (bA aP)),.int (.ofNat (qN q)),.bool u]
theorem oT:∀(q u:Bool) (f:Fin 2),aA (.tuple [.str qm,.int (.ofNat f.1),.int (.ofNat (qN q)),.bool u]):=by unfold aA;decide+kernel
theorem rY(q:Bool){f:Option Th}(h:fu f):aA (.list ((qT q++jb f).map PyData.str)):=by
 refine mR ?_ ?_
 ·have:=cT f;rw[List.length_append,ko];rcases q with _|_<;>simp only[qT,List.length_nil,List.length_singleton]<;>exact ai this (ai this)
 ·intro s hs;rcases List.mem_append.mp hs with hs|hs
  ·rcases q with _|_
   ·rcases hs with _|_
   ·rw[qT,List.mem_singleton]at hs;exact hs▸Ip
  ·exact Az h s hs
theorem IF(hm:MarkC C)(hs:kK C)(hq:Fw C){l:Int}{q:Bool}{aP:Option Th}{u:Bool}(hf:fu aP)(hb:b.told.length<=99000):
  tf (Run C) pf (cy (.cK l q aP u)) b .left (b.tell (aO cz (lH q aP u) (qT q++jb aP))):=by
 intro b0 bb bC γ Q k;rcases q with _|_<;>rcases aP with _|DF
 ·have hP:aA (.tuple (lH false none u)):=oT false u ⟨bA none,cT _⟩;have hS:aA (.list ((qT false++jb none).map PyData.str)):=rY false hf;refine bc fun bf=>?_;obtain⟨l1,l2,l3⟩:=yh (x:=hY) (by decide) hP hS;refine bf ?_;refine⟨hP.b,?_⟩;refine⟨l1,?_⟩;refine⟨l2,?_⟩;refine⟨hS.b,?_⟩;refine⟨l3,?_⟩;refine(hm pf b0 b bb bC γ _ _).2 (by omega) ?_;refine az (lV) ?_;exact k _
 ·have hP:aA (.tuple (lH false (some DF) u)):=oT false u ⟨bA (some DF),cT _⟩;have hS:aA (.list ((qT false++jb (some DF)).map PyData.str)):=rY false hf;refine bc fun bf=>?_;obtain⟨l1,l2,l3⟩:=yh (x:=hY) (by decide) hP hS;refine bf ?_;refine hs DF (eU pf b0 b bb bC γ []) _ rfl (hf _ rfl) ?_;refine⟨hP.b,?_⟩;refine⟨l1,?_⟩;refine⟨l2,?_⟩;refine⟨hS.b,?_⟩;refine⟨l3,?_⟩;refine(hm pf b0 b bb bC γ _ _).2 (by omega) ?_;refine az (lV) ?_;exact k _
 ·have hP:aA (.tuple (lH true none u)):=oT true u ⟨bA none,cT _⟩;have hS:aA (.list ((qT true++jb none).map PyData.str)):=rY true hf;refine bc fun bf=>?_;obtain⟨l1,l2,l3⟩:=yh (x:=hY) (by decide) hP hS;refine bf ?_;refine hq (eU pf b0 b bb bC γ []) _ rfl ?_;refine⟨hP.b,?_⟩;refine⟨l1,?_⟩;refine⟨l2,?_⟩;refine⟨hS.b,?_⟩;refine⟨l3,?_⟩;refine(hm pf b0 b bb bC γ _ _).2 (by omega) ?_;refine az (lV) ?_;exact k _
 ·have hP:aA (.tuple (lH true (some DF) u)):=oT true u ⟨bA (some DF),cT _⟩;have hS:aA (.list ((qT true++jb (some DF)).map PyData.str)):=rY true hf;refine bc fun bf=>?_;obtain⟨l1,l2,l3⟩:=yh (x:=hY) (by decide) hP hS;refine bf ?_;refine hq (eU pf b0 b bb bC γ []) _ rfl ?_;refine hs DF (eU pf b0 b bb bC γ []) _ rfl (hf _ rfl) ?_;refine⟨hP.b,?_⟩;refine⟨l1,?_⟩;refine⟨l2,?_⟩;refine⟨hS.b,?_⟩;refine⟨l3,?_⟩;refine(hm pf b0 b bb bC γ _ _).2 (by omega) ?_;refine az (lV) ?_;exact k _
noncomputable def Chain(C:Cl)(pf:PF):List D->Bk->Way->Bk->Prop
 |[],b,w,b'=>w=.done/\b'=b
 |x::xs,b,w,b'=>b.told.length<=99000/\∃l ws ys,x=.tuple (.str ws::.int l::ys)/\Ln l/\∃w1 b1,tf C pf x (b.tell (stepT l)) w1 b1/\(match w1 with|.done=>Chain C pf xs b1 w b'|w1=>w=w1/\b'=b1)
noncomputable def wR:List T:=[.expr (.call aU [(.var aM),(.bin .add (.bin .add (.c (.str hI)) (.str (.tup [(.sub (.var aD) (.c (.int (.ofNat 1))))]))) (.c (.str dC)))]),.asg (.x ip) (.call lr [(.var aM),(.var aD)]),.fL (.cmp .nP (.var ip) (.c .none)) [.ret (some (.var ip))] []]
noncomputable def rZ(x:D)(rest:ak):ak:=(aM,.b 11)::(bo,.d x)::rest
noncomputable def AG(rest:ak):Prop:=rest=[]\/∃a c,rest=[(aD,.d a),(ip,.d c)]
theorem LD(l:Int):(hI++(PyData.tuple [.int l]).shown)++dC=stepT l:=by
 unfold stepT aO;rw[LC,GQ,<-yR]
theorem tj(hm:MarkC C){ss:D}{rest:ak}(d8:AG rest){l:Int}{ws:Str}{ys:List D}(hl:Ln l){w:Way}{b1:Bk}(hb:b.told.length<=99000)(hw:tf C pf (.tuple (.str ws::.int l::ys)) (b.tell (stepT l)) w b1)
  {b0:Bk} {bb bC:Option aL} {γ:Nat} {R:ak->St->Prop} {Q:KF}
  (kd:w=.done->∀aG,AG aG->R (rZ ss aG) (eU pf b0 b1 bb bC γ []))
  (kr:w≠.done->∀ê,Q (.ret (.d (IB w))) ê (eU pf b0 b1 bb bC γ [])):
  bind1 [aD] (.tuple (.str ws::.int l::ys)) (rZ ss rest) fun d9=>gz (ex G C 59) wR d9 (eU pf b0 b bb bC γ []) (wo R Q):=by
 have hP:=yN hl;have l1:hI.length+(PyData.tuple [.int l]).shown.length<=ah:=by
  have:=hP.2.2.2;have h4:hI.length=5:=by decide
  unfold ah;exact aZ this (il h4)
 have l2:(hI++(PyData.tuple [.int l]).shown).length+dC.length<=ah:=by
  have:=hP.2.2.2;have h4:hI.length=5:=by decide
  have h5:dC.length=3:=by decide
  rw[strLen_append];unfold ah;exact jG this (il h4) (il h5)
 rcases d8 with rfl|⟨a0,c0,rfl⟩
 all_goals
  refine⟨hP.b,?_⟩;refine⟨l1,?_⟩;refine⟨l2,?_⟩;refine(hm pf b0 b bb bC γ ((hI++(PyData.tuple [.int l]).shown)++dC) _).2 (by omega) ?_;rw[LD];refine hw b0 bb bC γ _ fun τ=>?_;rcases w with _|_
  ·conv=>whnf
   exact kd rfl [(aD,.d (.tuple (.str ws::.int l::ys))),(ip,.d .none)] (.inr ⟨_,_,rfl⟩)
  ·conv=>whnf
   exact kr (by intro h;rcases h with _|_) _
  ·conv=>whnf
   exact kr (by intro h;rcases h with _|_) _
theorem IG(hm:MarkC C){ss:D}{b0:Bk}{bb bC:Option aL}{γ:Nat}{Q:KF}{w:Way}{b':Bk}(kd:w=.done->∀aG,AG aG->Q .next (rZ ss aG) (eU pf b0 b' bb bC γ []))
  (kr:w≠.done->∀ê,Q (.ret (.d (IB w))) ê (eU pf b0 b' bb bC γ [])):∀(xs:List D) (rest:ak) (b:Bk),AG rest->Chain C pf xs b w b'->
  forL (ex G C 59) [aD] wR none xs (rZ ss rest) (eU pf b0 b bb bC γ []) Q:=by
 intro l0
 induction l0 with
 |nil=>
  intro rest b hr h;refine bc fun bf=>?_;obtain⟨rfl,rfl⟩:=h;refine bf ?_;exact kd rfl rest hr
 |cons x xs ih=>
  intro rest b hr h;refine bc fun bf=>?_;obtain⟨hb,l,ws,ys,rfl,hl,w1,b1,hw,h⟩:=h;refine bf ?_;refine az (dm) ?_
  induction w1 using Way.casesOn with
  |done=>exact tj hm hr hl hb hw (fun _ aG jc=>ih aG b1 jc h) (fun z=>absurd rfl z)
  |left=>
   refine bc fun bf=>?_;obtain⟨rfl,rfl⟩:=h;refine bf ?_;exact tj hm hr hl hb hw (fun z=>by rcases z with _|_) (fun z ê=>kr z ê)
  |gj=>
   refine bc fun bf=>?_;obtain⟨rfl,rfl⟩:=h;refine bf ?_;exact tj hm hr hl hb hw (fun z=>by rcases z with _|_) (fun z ê=>kr z ê)
theorem N6(hm:MarkC C){ss:List D}{w:Way}{b':Bk}(hlen:ss.length<=100)(h:Chain C pf ss b w b'):oR (Run C) pf ss b w b':=by
 intro b0 bb bC γ Q k;show gz (ex G C 60) ([.gN [aD] (.var bo) wR]++[.ret (some (.c .none))]) (rZ (.list ss) []) (eU pf b0 b bb bC γ []) (fQ Q);refine bq fun R hR=>?_;refine js fun F hF=>?_;refine aj (by unfold ah;omega) ?_;refine hF _ _ _ ?_;refine IG hm (fun e aG jc=>?_) (fun e ê=>?_) ss [] b (.inl rfl) h
 ·subst e;refine hR _ _ ?_;exact k _
 ·rcases w with _|_
  ·exact absurd rfl e
  ·exact k _
  ·exact k _
end
section
variable{C:Cl}{pf:PF}{b:Bk}
theorem nG{x:D}{xs:List D}{w:Way}{b':Bk}(hx:x=.tuple (.str bB::xs))(h:N2 C pf x b w b'):tf (Run C) pf x b w b':=by
 subst hx;intro b0 bb bC γ Q k;refine h b0 bb bC γ _ fun τ=>?_;rcases w with _|_
 ·conv=>whnf
  exact k _
 ·conv=>whnf
  exact k _
 ·conv=>whnf
  exact k _
noncomputable def cU(b:Bk)(how:Option Bool)(ahead:List Str)(c:eR):Bk:=((bO (b.tell bF) c.args).tell (eV (some how) ahead c)).ask
theorem RC(hm:MarkC C)(hr:mh C)(hw:wG C){l:Int}{c:eR}{body o:List D}{w:Way}{b':Bk}(hc:gq c)(hb:b.told.length<=98000)(ha:pf.gG.natAbs<=ah)
  (h0:iA pf.gG (cU b none [] c).asked (Int.ofNat 2)=Int.ofNat 0->oR C pf o (cU b none [] c) w b')
  (h1:¬iA pf.gG (cU b none [] c).asked (Int.ofNat 2)=Int.ofNat 0->oR C pf body (cU b none [] c) w b'):N2 (Run C) pf (cy (.rN l c body o)) b w b':=by
 intro b0 bb bC γ Q k;refine(hm pf b0 b bb bC γ _ _).2 (by omega) ?_;refine az (iR) ?_;refine hw (some none) [] l c pf b0 (b.tell bF) bb bC γ _ hc (fun s hs=>by rcases hs with _|_) (by decide) (by show b.told.length+1<=_;exact ai hb) ?_;refine(hr pf b0 ((bO (b.tell bF) c.args).tell (eV (some none) [] c)) bb bC γ (Int.ofNat 2) _ (by decide) ha).2 ?_
 conv=>whnf
 split
 ·rename_i hd;refine h0 (of_decide_eq_true hd) b0 bb bC γ _ fun τ=>?_;rcases w with _|_
  ·exact k _
  ·exact k _
  ·exact k _
 ·rename_i hd;refine h1 (of_decide_eq_false hd) b0 bb bC γ _ fun τ=>?_;rcases w with _|_
  ·exact k _
  ·exact k _
  ·exact k _
theorem RD(hm:MarkC C)(hs:kK C)(hr:mh C)(hw:wG C){l l':Int}{c:eR}{t:Th}{u:Bool}{body o:List D}{w:Way}{b':Bk}(hc:gq c)(ht:gI t)(hb:b.told.length<=98000)(ha:pf.gG.natAbs<=ah)
  (h0:iA pf.gG (cU b (some u) [bD t] c).asked (Int.ofNat 2)=Int.ofNat 0->oR C pf o (cU b (some u) [bD t] c) w b')
  (h1:¬iA pf.gG (cU b (some u) [bD t] c).asked (Int.ofNat 2)=Int.ofNat 0->oR C pf body (cU b (some u) [bD t] c) w b'):N2 (Run C) pf (cy (.pS l c body l' t u o)) b w b':=by
 intro b0 bb bC γ Q k;rcases u with _|_
 ·conv=>whnf
  refine(hm pf b0 b bb bC γ _ _).2 (by omega) ?_;refine az (iR) ?_;refine hs t (eU pf b0 (b.tell bF) bb bC γ []) _ rfl ht ?_;refine hw (some (some false)) [bD t] l c pf b0 (b.tell bF) bb bC γ _ hc (fun s hs=>by rw[List.mem_singleton]at hs;exact hs▸ek ht) (by simp) (by show b.told.length+1<=_;exact ai hb) ?_;refine(hr pf b0 ((bO (b.tell bF) c.args).tell (eV (some (some false)) [bD t] c)) bb bC γ (Int.ofNat 2) _ (by decide) ha).2 ?_
  conv=>whnf
  split
  ·rename_i hd;refine h0 (of_decide_eq_true hd) b0 bb bC γ _ fun τ=>?_;rcases w with _|_
   ·exact k _
   ·exact k _
   ·exact k _
  ·rename_i hd;refine h1 (of_decide_eq_false hd) b0 bb bC γ _ fun τ=>?_;rcases w with _|_
   ·exact k _
   ·exact k _
   ·exact k _
 ·conv=>whnf
  refine(hm pf b0 b bb bC γ _ _).2 (by omega) ?_;refine az (iR) ?_;refine hs t (eU pf b0 (b.tell bF) bb bC γ []) _ rfl ht ?_;refine hw (some (some true)) [bD t] l c pf b0 (b.tell bF) bb bC γ _ hc (fun s hs=>by rw[List.mem_singleton]at hs;exact hs▸ek ht) (by simp) (by show b.told.length+1<=_;exact ai hb) ?_;refine(hr pf b0 ((bO (b.tell bF) c.args).tell (eV (some (some true)) [bD t] c)) bb bC γ (Int.ofNat 2) _ (by decide) ha).2 ?_
  conv=>whnf
  split
  ·rename_i hd;refine h0 (of_decide_eq_true hd) b0 bb bC γ _ fun τ=>?_;rcases w with _|_
   ·exact k _
   ·exact k _
   ·exact k _
  ·rename_i hd;refine h1 (of_decide_eq_false hd) b0 bb bC γ _ fun τ=>?_;rcases w with _|_
   ·exact k _
   ·exact k _
   ·exact k _
noncomputable def RE:Option Th->Str
 |none=>aI
 |some t=>bD t
noncomputable def jF:cR->Option Bool
 |.acc g _ _ _ _ _ _=>g
 |.dr g _ _ _ _=>g
 |.term g _=>g
noncomputable def j8(a:cR):Bool:=match jF a with
 |some false=>false
 |_=>true
noncomputable def nH:cR->Str
 |.acc _ _ e aP _ _ _=>iQ bN [.str (cE e),.int (.ofNat (bA aP))] (RE aP)
 |.dr _ _ t u _=>iQ de [.bool u] (bD t)
 |.term _ _=>iQ eG [] aI
noncomputable def opens:Nat->List cR->List D
 |_,[]=>[]
 |i,a::l=>match j8 a with
  |true=>lF i (nH a)::opens (i+1) l
  |false=>opens (i+1) l
noncomputable def eD:Nat->Nat->List D
 |_,0=>[]
 |i,k+1=>.int (Int.ofNat i)::eD (i+1) k
theorem tm:∀(k i:Nat),(List.range' i k).map (fun(n:Nat)=>PyData.int (n:Int))=eD i k
 |0,_=>rfl
 |k+1,i=>by
  show PyData.int (i:Int)::(List.range' (i+1) k).map _=_;refine az (tm k (i+1)) ?_;rfl
theorem mU(k:Nat):eL k=eD 0 k:=by
 unfold eL;rw[List.range_eq_range',tm]
theorem C9:gw=bN++aQ:=by decide+kernel
theorem wU:jg=de++aQ:=by decide+kernel
theorem Dc:gF=iQ eG [] aI:=by decide+kernel
theorem AH:∀(e:Bool) (f:Fin 2),aA (.tuple [.str (cE e),.int (.ofNat f.1)]):=by unfold aA;decide+kernel
theorem RF{x:Str}{p:D}{y:Str}(h:x.length<=100)(hp:aA p)(hy:y.length<=5000):x.length+p.shown.length<=ah/\(x++p.shown).length+aQ.length<=ah/\((x++p.shown)++aQ).length+y.length<=ah:=by
 have h1:=hp.2.2.2;have h3:aQ.length=1:=by decide
 rw[strLen_append (x++p.shown),strLen_append x];unfold ah;exact⟨aZ h h1,jG h h1 (il h3),uB h hy h1 (il h3)⟩
end
section
variable{C:Cl}{pf:PF}{b:Bk}
noncomputable def kindS:cR->Str
 |.acc _ _ _ _ _ _ _=>bw
 |.dr _ _ _ _ _=>bE
 |.term _ _=>kg
noncomputable def nO:cR->D
 |.acc _ l e aP fm body _=>qC l e aP fm body
 |.dr _ l t u _=>jr l t u
 |.term _ _=>.none
noncomputable def pW:cR->List D
 |.acc _ _ _ _ _ _ r=>r
 |.dr _ _ _ _ r=>r
 |.term _ r=>r
theorem uN(a:cR):eI a=.tuple [oJ (jF a),.str (kindS a),nO a,.list (pW a)]:=by rcases a with _|_<;>rfl
noncomputable def lI(x:D)(l:Int)(alts:List D)(other:D)(rest:ak):ak:=(aM,.b 11)::(aD,.d x)::(bH,.d (.str bB))::(ba,.d (.int l))::(aC,.d (.list alts))::(dp,.d other)::(bT,.t 0)::rest
noncomputable def Pz(a b c d e:D):ak:=[(aW,.d a),(fp,.d b),(cJ,.d c),(bI,.d d),(bo,.d e)]
noncomputable def N7(a b c d e f:D):ak:=[(aW,.d a),(fp,.d b),(cJ,.d c),(bI,.d d),(bo,.d e),(cI,.d f)]
noncomputable def r6(rest:ak):Prop:=rest=[]\/(∃a b c d e,rest=Pz a b c d e)\/(∃a b c d e f,rest=N7 a b c d e f)
noncomputable def kq:List T:=[.asg (.tup [fp,cJ,bI,bo]) (.sub (.var aC) (.var aW)),.fL (.cx (.cmp .nP (.var fp) (.c .none)) (.cmp .eq (.sub (.var fp) (.c (.int (.ofNat 2)))) (.c (.int (.ofNat 0))))) [.cont] [],.fL (.cmp .eq (.var cJ) (.c (.str bw))) [.asg (.x cI) (.ite (.cmp .is (.sub (.var bI) (.c (.int (.ofNat 3)))) (.c .none)) (.c (.str aI)) (.call cW [(.sub (.var bI) (.c (.int (.ofNat 3))))])),.expr (.append (.var bT) (.tup [(.var aW),(.bin .add (.bin .add (.bin .add (.c (.str gw)) (.str (.tup [(.sub (.var bI) (.c (.int (.ofNat 2)))),(.ite (.cmp .is (.sub (.var bI) (.c (.int (.ofNat 3)))) (.c .none)) (.c (.int (.ofNat 0))) (.c (.int (.ofNat 1))))]))) (.c (.str aQ))) (.var cI))]))] [.fL (.cmp .eq (.var cJ) (.c (.str bE))) [.expr (.append (.var bT) (.tup [(.var aW),(.bin .add (.bin .add (.bin .add (.c (.str jg)) (.str (.tup [(.sub (.var bI) (.c (.int (.ofNat 3))))]))) (.c (.str aQ))) (.call cW [(.sub (.var bI) (.c (.int (.ofNat 2))))]))]))] [.expr (.append (.var bT) (.tup [(.var aW),(.c (.str gF))]))]]]
noncomputable def iL:cR->Prop
 |.acc _ _ _ aP _ _ _=>fu aP
 |.dr _ _ t _ _=>gI t
 |.term _ _=>True
theorem IJ(hs:kK C){x:D}{l:Int}{alts:List D}{other:D}{rest:ak}{i:Nat}{a:cR}{g:D}(d8:rest=Pz (.int (Int.ofNat i)) g (.str (kindS a)) (nO a) (.list (pW a))\/∃f,rest=N7 (.int (Int.ofNat i)) g (.str (kindS a)) (nO a) (.list (pW a)) f)(ha:iL a)
  {b0:Bk} {bb bC:Option aL} {γ:Nat} {r:List D} (hr:r.length<=1000) {R:ak->St->Prop} {Q:KF} (k:∀aG,r6 aG->R (lI x l alts other aG) (eU pf b0 b bb bC γ [.list [] (lF i (nH a)::r)])):
  gz (ex G C 59) (kq.drop 2) (lI x l alts other rest) (eU pf b0 b bb bC γ [.list [] r]) (wo R Q):=by
 have jc:0+r.length<ah:=by unfold ah;exact ai hr
 induction a using cR.casesOn with
 |acc g0 l0 e aP fm body rr=>
  have hP:aA (.tuple [.str (cE e),.int (.ofNat (bA aP))]):=AH e ⟨bA aP,cT _⟩;rcases aP with _|DF
  ·obtain⟨l1,l2,l3⟩:=RF (x:=gw) (y:=aI) (by decide) hP (by decide);rcases d8 with rfl|⟨f,rfl⟩
   all_goals
    refine⟨hP.b,?_⟩;refine⟨l1,?_⟩;refine⟨l2,?_⟩;refine⟨l3,?_⟩;refine⟨jc,?_⟩;refine az (C9) ?_;exact k (N7 _ _ _ _ _ (.str aI)) (.inr (.inr ⟨_,_,_,_,_,_,rfl⟩))
  ·have to:gI DF:=ha _ rfl;obtain⟨l1,l2,l3⟩:=RF (x:=gw) (y:=bD DF) (by decide) hP (ek to).2;rcases d8 with rfl|⟨f,rfl⟩
   all_goals
    refine hs DF (eU pf b0 b bb bC γ []) _ rfl to ?_;refine⟨hP.b,?_⟩;refine⟨l1,?_⟩;refine⟨l2,?_⟩;refine⟨l3,?_⟩;refine⟨jc,?_⟩;refine az (C9) ?_;exact k (N7 _ _ _ _ _ (.str (bD DF))) (.inr (.inr ⟨_,_,_,_,_,_,rfl⟩))
 |dr g0 l0 t u rr=>
  have hP:=AE u;obtain⟨l1,l2,l3⟩:=RF (x:=jg) (y:=bD t) (by decide) hP (ek ha).2;rcases d8 with rfl|⟨f,rfl⟩
  ·conv=>whnf
   refine⟨hP.b,?_⟩;refine⟨l1,?_⟩;refine⟨l2,?_⟩;refine hs t (eU pf b0 b bb bC γ []) _ rfl ha ?_;refine⟨l3,?_⟩;refine⟨jc,?_⟩;refine az (wU) ?_;exact k (Pz _ _ _ _ _) (.inr (.inl ⟨_,_,_,_,_,rfl⟩))
  ·conv=>whnf
   refine⟨hP.b,?_⟩;refine⟨l1,?_⟩;refine⟨l2,?_⟩;refine hs t (eU pf b0 b bb bC γ []) _ rfl ha ?_;refine⟨l3,?_⟩;refine⟨jc,?_⟩;refine az (wU) ?_;exact k (N7 _ _ _ _ _ _) (.inr (.inr ⟨_,_,_,_,_,_,rfl⟩))
 |term g0 rr=>
  rcases d8 with rfl|⟨f,rfl⟩
  ·conv=>whnf
   refine⟨jc,?_⟩;refine az (Dc) ?_;exact k (Pz _ _ _ _ _) (.inr (.inl ⟨_,_,_,_,_,rfl⟩))
  ·conv=>whnf
   refine⟨jc,?_⟩;refine az (Dc) ?_;exact k (N7 _ _ _ _ _ _) (.inr (.inr ⟨_,_,_,_,_,_,rfl⟩))
noncomputable def fx(i:Nat)(a:cR)(r:List D):List D:=match j8 a with
 |true=>lF i (nH a)::r
 |false=>r
theorem IK(hs:kK C){x:D}{l:Int}{alts:List D}{other:D}{rest:ak}{i:Nat}{a:cR}(d8:r6 rest)(ha:iL a)(hi:i<=90)(hx:idx alts (Int.ofNat i)=some (eI a))
  {b0:Bk} {bb bC:Option aL} {γ:Nat} {r:List D} (hr:r.length<=1000) {R:ak->St->Prop} {Q:KF} (k:∀aG,r6 aG->R (lI x l alts other aG) (eU pf b0 b bb bC γ [.list [] (fx i a r)])):
  bind1 [aW] (.int (Int.ofNat i)) (lI x l alts other rest) fun d9=>gz (ex G C 59) kq d9 (eU pf b0 b bb bC γ [.list [] r]) (wo R Q):=by
 rw[uN]at hx;have tail:(j8 a=true)->∀aG,(aG=Pz (.int (Int.ofNat i)) (oJ (jF a)) (.str (kindS a)) (nO a) (.list (pW a))\/∃f,aG=N7 (.int (Int.ofNat i)) (oJ (jF a)) (.str (kindS a)) (nO a) (.list (pW a)) f)->
   gz (ex G C 59) (kq.drop 2) (lI x l alts other aG) (eU pf b0 b bb bC γ [.list [] r]) (wo R Q):=fun ho aG um=>by
  refine IJ hs um ha hr fun gV h2=>?_;have:=k gV h2;unfold fx at this;rw[ho]at this;exact this
 show gz (ex G C 59) (kq.take 2++kq.drop 2) (i9 aW (.d (.int (Int.ofNat i))) (lI x l alts other rest)) (eU pf b0 b bb bC γ [.list [] r]) (wo R Q);refine bq fun R2 tT=>?_;have oU:j8 a=match jF a with|some false=>false|_=>true:=rfl
 unfold fx at k;cases hg:jF a with
 |none=>
  rw[hg]at hx oU tail;rcases d8 with rfl|⟨a0,c0,d0,e0,f0,rfl⟩|⟨a0,c0,d0,e0,f0,g0,rfl⟩
  ·conv=>whnf
   refine az (hx) ?_;refine aj (by unfold ah;omega) ?_;exact tT _ _ (tail oU _ (.inl rfl))
  ·conv=>whnf
   refine az (hx) ?_;refine aj (by unfold ah;omega) ?_;exact tT _ _ (tail oU _ (.inl rfl))
  ·conv=>whnf
   refine az (hx) ?_;refine aj (by unfold ah;omega) ?_;exact tT _ _ (tail oU _ (.inr ⟨g0,rfl⟩))
 |some g=>
  rw[hg]at hx oU tail;rcases g with _|_
  ·have oU:j8 a=false:=oU;rw[oU]at k;rcases d8 with rfl|⟨a0,c0,d0,e0,f0,rfl⟩|⟨a0,c0,d0,e0,f0,g0,rfl⟩
   ·conv=>whnf
    refine az (hx) ?_;refine aj (by unfold ah;omega) ?_;exact k (Pz _ _ _ _ _) (.inr (.inl ⟨_,_,_,_,_,rfl⟩))
   ·conv=>whnf
    refine az (hx) ?_;refine aj (by unfold ah;omega) ?_;exact k (Pz _ _ _ _ _) (.inr (.inl ⟨_,_,_,_,_,rfl⟩))
   ·conv=>whnf
    refine az (hx) ?_;refine aj (by unfold ah;omega) ?_;exact k (N7 _ _ _ _ _ _) (.inr (.inr ⟨_,_,_,_,_,_,rfl⟩))
  ·rcases d8 with rfl|⟨a0,c0,d0,e0,f0,rfl⟩|⟨a0,c0,d0,e0,f0,g0,rfl⟩
   ·conv=>whnf
    refine az (hx) ?_;refine aj (by unfold ah;omega) ?_;exact tT _ _ (tail oU _ (.inl rfl))
   ·conv=>whnf
    refine az (hx) ?_;refine aj (by unfold ah;omega) ?_;exact tT _ _ (tail oU _ (.inl rfl))
   ·conv=>whnf
    refine az (hx) ?_;refine aj (by unfold ah;omega) ?_;exact tT _ _ (tail oU _ (.inr ⟨g0,rfl⟩))
theorem AI{α:Type}(p:List α)(x:α)(q:List α):idx (p++x::q) (Int.ofNat p.length)=some x:=by
 show aq (p++x::q) p.length=some x;rw[mN];simp
theorem IL(hs:kK C){x:D}{l:Int}{alts:List D}{other:D}{b0:Bk}{bb bC:Option aL}{γ:Nat}{Q:KF}:∀(as pre:List cR) (rest:ak) (r:List D),alts=(pre++as).map eI->r6 rest->(∀a∈as,iL a)->pre.length+as.length<=50->r.length+as.length<=900->
  (∀aG,r6 aG->Q .next (lI x l alts other aG) (eU pf b0 b bb bC γ [.list [] ((opens pre.length as).reverse++r)]))->
  forL (ex G C 59) [aW] kq none (eD pre.length as.length) (lI x l alts other rest) (eU pf b0 b bb bC γ [.list [] r]) Q:=by
 intro l0
 induction l0 with
 |nil=>
  intro pre rest r ha hr _ _ _ k;exact k rest hr
 |cons a as ih=>
  intro pre rest r ha hr hl h1 h2 k;rw[List.length_cons]at h1 h2;have hx:idx alts (Int.ofNat pre.length)=some (eI a):=by
   have:=AI (pre.map eI) (eI a) (as.map eI);rw[List.length_map]at this;refine az (ha) ?_;refine az (List.map_append) ?_;refine az (List.map_cons) ?_;exact this
  show forL (ex G C 59) [aW] kq none (.int (Int.ofNat pre.length)::eD (pre.length+1) as.length) (lI x l alts other rest) (eU pf b0 b bb bC γ [.list [] r]) Q;refine az (dm) ?_;refine IK hs hr (hl a List.mem_cons_self) (ai h1) hx (ai h2) fun aG jc=>?_;have e:pre.length+1=(pre++[a]).length:=by rw[List.length_append];rfl
  refine az (e) ?_;have hlen:(fx pre.length a r).length<=r.length+1:=by
   unfold fx;split
   ·rw[List.length_cons];omega
   ·omega
  refine ih (pre++[a]) aG _ (by rw[ha,List.append_assoc];rfl) jc (fun y hy=>hl y (List.mem_cons_of_mem _ hy)) (by rw[<-e];exact ai h1) (aZ h2 hlen) fun gV um=>?_;have:=k gV um;refine Je (e) ?_;have e2:(opens (pre.length+1) as).reverse++fx pre.length a r=(opens pre.length (a::as)).reverse++r:=by
   unfold fx;show _=(match j8 a with|true=>lF pre.length (nH a)::opens (pre.length+1) as|false=>opens (pre.length+1) as).reverse++r;cases j8 a<;>simp
  refine az (e2) ?_;exact this
end
noncomputable def r7(x:Str):Prop:=∀c∈x.cps.toList,c<16 ^ 8
theorem r7.app{x y:Str}(h:r7 x)(k:r7 y):r7 (x++y):=by
 intro c hc;have:(x++y).cps.toList=x.cps.toList++y.cps.toList:=by
  cases x;cases y;exact Array.toList_append
 rw[this]at hc;rcases List.mem_append.mp hc with hc|hc
 ·exact h c hc
 ·exact k c hc
theorem AJ{i:Nat}{x:Str}(hi:i<=100)(hc:r7 x)(hx:x.length<=300):uq (lF i x):=by
 obtain⟨a,c⟩:=CU (l:=Int.ofNat i) (by show i<=100000;omega);refine⟨?_,?_,?_,?_⟩
 ·simp only[lF,PyData.showable,PyData.showableAll,Bool.and_true]at a⊢;exact a
 ·simp[lF,PyData.hasDict,PyData.hasDictAll]
 ·simp[lF,PyData.depth,PyData.depthAll]
 ·simp only[lF,PyData.shown,PyData.shownAll];have h:=StrLaws.reprText_len x hc;have e:=join_length_add [((toString (Int.ofNat i):String):Str),reprText x] (by simp);unfold tupleText;rw[strLen_append,strLen_append];have h1:(("(" :String):Str).length=1:=by decide
  have h3:((if[((toString (Int.ofNat i):String):Str),reprText x].length==1 then ",)" else ")" :String):Str).length=1:=by
   show(((")" :String)):Str).length=1;decide
  have e':(Str.join (", " :String) [((toString (Int.ofNat i):String):Str),reprText x]).length+2=(((toString (Int.ofNat i):String):Str).length+2)+((reprText x).length+2):=by
   rw[e];simp[piled];try omega
  omega
theorem N8:∀(e:Bool) (f:Fin 2),r7 (((bN++aQ)++(PyData.tuple [.str (cE e),.int (.ofNat f.1)]).shown)++aQ)/\(((bN++aQ)++(PyData.tuple [.str (cE e),.int (.ofNat f.1)]).shown)++aQ).length<=100:=by unfold r7;decide+kernel
theorem IM:∀(u:Bool),r7 (((de++aQ)++(PyData.tuple [.bool u]).shown)++aQ)/\(((de++aQ)++(PyData.tuple [.bool u]).shown)++aQ).length<=100:=by unfold r7;decide+kernel
theorem GR:r7 (iQ eG [] aI)/\(iQ eG [] aI).length<=100:=by unfold r7;decide+kernel
theorem PA:∀t∈wB,r7 (bD t)/\(bD t).length<=100:=by unfold r7;decide+kernel
theorem RG{f:Option Th}(h:fu f):r7 (RE f)/\(RE f).length<=100:=by
 induction f using Option.casesOn with
 |none=>exact⟨fun c hc=>(by rcases hc with _|_),by decide⟩
 |some t=>exact PA t (mf (h t rfl))
theorem RH{i:Nat}(hi:i<3){a:cR}(ha:iL a):uq (lF i (nH a)):=by
 induction a using cR.casesOn with
 |acc g l e aP fm body r=>
  obtain⟨h1,h2⟩:=N8 e ⟨bA aP,cT _⟩;obtain⟨h3,h4⟩:=RG ha;refine AJ (ai hi) (h1.app h3) ?_;show(iQ _ _ _).length<=300;unfold iQ;rw[strLen_append];have yA:(((bN++aQ)++(PyData.tuple [.str (cE e),.int (.ofNat (bA aP))]).shown)++aQ).length<=100:=h2;omega
 |dr g l t u r=>
  obtain⟨h1,h2⟩:=IM u;obtain⟨h3,h4⟩:=PA t (mf ha);refine AJ (ai hi) (h1.app h3) ?_;show(iQ _ _ _).length<=300;unfold iQ;rw[strLen_append];omega
 |term g r=>exact AJ (ai hi) GR.1 (by have:=GR.2;show(iQ eG [] aI).length<=300;omega)
theorem wV:∀(as:List cR) (i:Nat),i+as.length<=3->(∀a∈as,iL a)->(∀d∈opens i as,uq d)/\(opens i as).length<=as.length:=by
 intro l0
 induction l0 with
 |nil=>
  intro _ _ _;exact⟨fun d hd=>(by rcases hd with _|_),Nat.le_refl _⟩
 |cons a as ih=>
  intro i h ha;rw[List.length_cons]at h;obtain⟨h1,h2⟩:=ih (i+1) (ai h) fun x hx=>ha x (List.mem_cons_of_mem _ hx);unfold opens;split
  ·refine⟨fun d hd=>?_,by rw[List.length_cons,List.length_cons];exact ai h2⟩;rcases List.mem_cons.mp hd with rfl|hd
   ·exact RH (ai h) (ha a List.mem_cons_self)
   ·exact h1 d hd
  ·exact⟨h1,by rw[List.length_cons];exact ai h2⟩
theorem wW{as:List cR}(h:as.length<=3)(ha:∀a∈as,iL a):aA (.list (opens 0 as)):=by
 obtain⟨h1,h2⟩:=wV as 0 (ai h) ha;exact yM (aZ h h2) h1
section
variable{C:Cl}{pf:PF}{b:Bk}
noncomputable def cj(b:Bk)(as:List cR)(o:Option (List D)):Bk:=(b.tell bF).tell (gr o.isSome (opens 0 as))
theorem FA(hm:MarkC C)(hs:kK C){l:Int}{as:List cR}{o:Option (List D)}(qI:as≠[])(hlen:as.length<=3)(ha:∀a∈as,iL a)(hb:b.told.length<=98000)
  {b0:Bk} {bb bC:Option aL} {γ:Nat} {R:ak->St->Prop} {Q:KF} (k:∀rest,r6 rest->R (lI (cy (.sel l as o)) l (as.map eI) (rM o) rest) (eU pf b0 (cj b as o) bb bC γ [.yk (.list (opens 0 as))])):
  gz (ex G C 60) ((P.code aV).take 6) [(aM,.b 11),(aD,.d (cy (.sel l as o)))] (eU pf b0 b bb bC γ []) (MC R Q):=by
 show gz (ex G C 60) ((P.code aV).take 3++((P.code aV).drop 3).take 3) [(aM,.b 11),(aD,.d (cy (.sel l as o)))] (eU pf b0 b bb bC γ []) (MC R Q);refine bq fun R2 tT=>?_;obtain⟨a,GS,rfl⟩:∃a GS,as=a::GS:=by
  induction as using List.casesOn with
  |nil=>exact absurd rfl qI
  |cons a GS=>exact⟨a,GS,rfl⟩
 have go:R2 [(aM,.b 11),(aD,.d (cy (.sel l (a::GS) o))),(bH,.d (.str bB)),(ba,.d (.int l)),(aC,.d (.list ((a::GS).map eI))),(dp,.d (rM o))] (eU pf b0 (b.tell bF) bb bC γ []):=by
  refine tT _ _ ?_;have e:((P.code aV).drop 3).take 3=[.asg (.x bT) (.lst .A6 [])]++([.gN [aW] (.sg (.len (.var aC))) kq]++[.expr (.call aU [(.var aM),(.bin .add (.bin .add (.bin .add (.c (.str eF)) (.str (.cmp .nP (.var dp) (.c .none)))) (.c (.str aQ))) (.str (.var bT)))])]):=rfl;refine az (e) ?_;refine bq fun R3 NL=>?_;refine NL (lI (cy (.sel l (a::GS) o)) l ((a::GS).map eI) (rM o) []) (eU pf b0 (b.tell bF) bb bC γ [.list [] []]) ?_;refine bq fun R4 Y8=>?_;refine js fun F hF=>?_;refine aj (by rw[List.length_map];unfold ah;omega) ?_;refine aj (by rw[List.length_map];unfold ah;omega) ?_;refine hF _ _ _ ?_;rw[mU,List.length_map];refine IL (x:=cy (.sel l (a::GS) o)) (l:=l) (other:=rM o) hs (a::GS) [] [] [] rfl (.inl rfl) ha (by rw[List.length_nil];exact ai hlen) (by rw[List.length_nil];exact ai hlen) fun aG jc=>?_;refine Y8 _ _ ?_;have hS:=wW hlen ha;have eo:((opens ([]:List cR).length (a::GS)).reverse++[]).reverse=opens 0 (a::GS):=by simp
  have kk:=k aG jc
  induction o using Option.casesOn with
  |none=>
   obtain⟨l1,l2,l3⟩:=td (b:=false) hS;rcases jc with rfl|⟨a0,c0,d0,e0,f0,rfl⟩|⟨a0,c0,d0,e0,f0,g0,rfl⟩
   all_goals
    conv=>whnf
    refine⟨l1,?_⟩
    conv=>whnf
    refine⟨l2,?_⟩
    conv=>whnf
    refine az (eo) ?_;refine⟨hS.b,?_⟩;refine⟨l3,?_⟩;refine(hm pf b0 (b.tell bF) bb bC γ (gr false (opens 0 (a::GS))) _).2 (by show b.told.length+1<=_;exact ai hb) ?_;exact kk
  |some s=>
   obtain⟨l1,l2,l3⟩:=td (b:=true) hS;rcases jc with rfl|⟨a0,c0,d0,e0,f0,rfl⟩|⟨a0,c0,d0,e0,f0,g0,rfl⟩
   all_goals
    conv=>whnf
    refine⟨l1,?_⟩
    conv=>whnf
    refine⟨l2,?_⟩
    conv=>whnf
    refine az (eo) ?_;refine⟨hS.b,?_⟩;refine⟨l3,?_⟩;refine(hm pf b0 (b.tell bF) bb bC γ (gr true (opens 0 (a::GS))) _).2 (by show b.told.length+1<=_;exact ai hb) ?_;exact kk
 rcases a with _|_
 all_goals
  refine(hm pf b0 b bb bC γ _ _).2 (by omega) ?_;refine az (iR) ?_;exact go
end
section
variable{C:Cl}{pf:PF}{b:Bk}
noncomputable def wX(fm:Bool):Str:=aO cO [dZ fm] []
noncomputable def r8(C:Cl)(pf:PF)(a:cR)(b:Bk)(w:Way)(b':Bk):Prop:=match a with
 |.acc _ _ _ _ fm body r=>∃w1 b1,oR C pf body (b.tell (wX fm)) w1 b1/\b1.told.length<=98000/\(match w1 with|.gj=>w=.gj/\b'=b1|_=>oR C pf r (b1.tell fP) w b')
 |.dr _ _ _ _ r=>oR C pf r b w b'
 |.term _ r=>oR C pf r b w b'
theorem IP(fm:Bool):(dj++(PyData.tuple [dZ fm]).shown)++dC=wX fm:=by
 unfold wX aO;rw[IE,GQ,<-yR]
theorem IQ(fm:Bool):dj.length+(PyData.tuple [dZ fm]).shown.length<=ah/\(dj++(PyData.tuple [dZ fm]).shown).length+dC.length<=ah:=by
 have:∀fm,dj.length+(PyData.tuple [dZ fm]).shown.length<=ah/\(dj++(PyData.tuple [dZ fm]).shown).length+dC.length<=ah:=by decide+kernel
 exact this fm
theorem Dd(hm:MarkC C)(hr:mh C){x:D}{l:Int}{as:List cR}{ol:List D}{other:D}{rest:ak}(d8:r6 rest){i j:Nat}{a:cR}{tx:Str}{w:Way}{b':Bk}(hb:b.told.length<=98000)(ha:pf.gG.natAbs<=ah)(hlen:ol.length<=1000)(Rr:0<ol.length)
  (hj:iA pf.gG b.ask.asked (Int.ofNat ol.length)=Int.ofNat j) (hj9:j<=90) (hi9:i<=90) (hx:idx ol (Int.ofNat j)=some (lF i tx)) (hi:idx (as.map eI) (Int.ofNat i)=some (eI a)) (hc:r8 C pf a b.ask w b')
  {b0:Bk} {bb bC:Option aL} {γ:Nat} {Q:KV} (k:∀τ,Q (.d (IB w)) (eU pf b0 b' bb bC γ τ)):
  gz (ex G C 60) ((P.code aV).drop 7) (lI x l (as.map eI) other rest) (eU pf b0 b bb bC γ [.yk (.list ol)]) (fQ Q):=by
 have VA:j<=ah:=by unfold ah;omega
 have MD:i<=ah:=by unfold ah;omega
 have pC:ol.length<=ah:=by unfold ah;omega
 have e:(P.code aV).drop 7=((P.code aV).drop 7).take 1++(P.code aV).drop 8:=rfl;refine az (e) ?_;refine bq fun R hR=>?_;have tail:∀aG,(∃at_,aG=Pz at_ (oJ (jF a)) (.str (kindS a)) (nO a) (.list (pW a))\/∃f,aG=N7 at_ (oJ (jF a)) (.str (kindS a)) (nO a) (.list (pW a)) f)\/(aG=[(fp,.d (oJ (jF a))),(cJ,.d (.str (kindS a))),(bI,.d (nO a)),(bo,.d (.list (pW a)))])->
   R (lI x l (as.map eI) other aG) (eU pf b0 b.ask bb bC γ [.yk (.list ol)]):=by
  intro aG um;refine hR _ _ ?_
  induction a using cR.casesOn with
  |dr g l0 t u r=>
   rcases um with⟨at_,rfl|⟨f,rfl⟩⟩|rfl
   all_goals
    refine hc b0 bb bC γ _ fun τ=>?_;rcases w with _|_
    ·exact k _
    ·exact k _
    ·exact k _
  |term g r=>
   rcases um with⟨at_,rfl|⟨f,rfl⟩⟩|rfl
   all_goals
    refine hc b0 bb bC γ _ fun τ=>?_;rcases w with _|_
    ·exact k _
    ·exact k _
    ·exact k _
  |acc g l0 e0 aP fm body r=>
   obtain⟨w1,b1,h1,h2,h3⟩:=hc;obtain⟨l1,l2⟩:=IQ fm;have hP:=GO fm;rcases um with⟨at_,rfl|⟨f,rfl⟩⟩|rfl
   all_goals
    refine⟨hP.b,?_⟩;refine⟨l1,?_⟩;refine⟨l2,?_⟩;refine(hm pf b0 b.ask bb bC γ ((dj++(PyData.tuple [dZ fm]).shown)++dC) _).2 (by show b.told.length<=_;omega) ?_;rw[IP];refine h1 b0 bb bC γ _ fun τ=>?_;rcases w1 with _|_
    ·conv=>whnf
     refine(hm pf b0 b1 bb bC γ _ _).2 (by omega) ?_;refine az (jW) ?_;refine h3 b0 bb bC γ _ fun τ=>?_;rcases w with _|_
     ·exact k _
     ·exact k _
     ·exact k _
    ·conv=>whnf
     refine(hm pf b0 b1 bb bC γ _ _).2 (by omega) ?_;refine az (jW) ?_;refine h3 b0 bb bC γ _ fun τ=>?_;rcases w with _|_
     ·exact k _
     ·exact k _
     ·exact k _
    ·obtain⟨rfl,rfl⟩:=h3;exact k _
 have ind:∀(aG:ak) (v:D),v=.tuple [oJ (jF a),.str (kindS a),nO a,.list (pW a)]->True:=fun _ _ _=>trivial;rw[uN]at hi;rcases d8 with rfl|⟨a0,c0,d0,e0,f0,rfl⟩|⟨a0,c0,d0,e0,f0,g0,rfl⟩
 ·conv=>whnf
  refine aj pC ?_;refine(hr pf b0 b bb bC γ (Int.ofNat ol.length) _ (by show(0:Int)<(ol.length:Int);omega) ha).2 ?_;refine az (hj) ?_
  conv=>whnf
  refine az (hx) ?_;refine aj VA ?_
  conv=>whnf
  refine az (hi) ?_;refine aj MD ?_;exact tail _ (.inr rfl)
 ·conv=>whnf
  refine aj pC ?_;refine(hr pf b0 b bb bC γ (Int.ofNat ol.length) _ (by show(0:Int)<(ol.length:Int);omega) ha).2 ?_;refine az (hj) ?_
  conv=>whnf
  refine az (hx) ?_;refine aj VA ?_
  conv=>whnf
  refine az (hi) ?_;refine aj MD ?_;exact tail _ (.inl ⟨_,.inl rfl⟩)
 ·conv=>whnf
  refine aj pC ?_;refine(hr pf b0 b bb bC γ (Int.ofNat ol.length) _ (by show(0:Int)<(ol.length:Int);omega) ha).2 ?_;refine az (hj) ?_
  conv=>whnf
  refine az (hx) ?_;refine aj VA ?_
  conv=>whnf
  refine az (hi) ?_;refine aj MD ?_;exact tail _ (.inl ⟨_,.inr ⟨_,rfl⟩⟩)
noncomputable def VB(C:Cl)(pf:PF)(as:List cR)(o:Option (List D))(b:Bk)(w:Way)(b':Bk):Prop:=
 (∃s,isNil (opens 0 as)=true/\o=some s/\oR C pf s (cj b as o) w b')\/
 (isNil (opens 0 as)=true/\o=none/\w=.gj/\b'=cj b as o)\/
 (∃s,isNil (opens 0 as)=false/\o=some s/\iA pf.gG (cj b as o).ask.asked (Int.ofNat 3)=Int.ofNat 0/\oR C pf s (cj b as o).ask w b')\/
 (∃s i j a tx,isNil (opens 0 as)=false/\o=some s/\¬iA pf.gG (cj b as o).ask.asked (Int.ofNat 3)=Int.ofNat 0/\iA pf.gG (cj b as o).ask.ask.asked (Int.ofNat (opens 0 as).length)=Int.ofNat j/\j<=90/\i<=90/\
  idx (opens 0 as) (Int.ofNat j)=some (lF i tx)/\idx (as.map eI) (Int.ofNat i)=some (eI a)/\r8 C pf a (cj b as o).ask.ask w b')\/
 (∃i j a tx,isNil (opens 0 as)=false/\o=none/\iA pf.gG (cj b as o).ask.asked (Int.ofNat (opens 0 as).length)=Int.ofNat j/\j<=90/\i<=90/\
  idx (opens 0 as) (Int.ofNat j)=some (lF i tx)/\idx (as.map eI) (Int.ofNat i)=some (eI a)/\r8 C pf a (cj b as o).ask w b')
theorem tn{α:Type}{l:List α}(h:isNil l=false):0<l.length:=by
 induction l using List.casesOn with
 |nil=>cases h
 |cons x l=>exact Nat.succ_pos _
theorem VC(hm:MarkC C)(hs:kK C)(hr:mh C){l:Int}{as:List cR}{o:Option (List D)}{w:Way}{b':Bk}(qI:as≠[])(hlen:as.length<=3)(ME:∀a∈as,iL a)(hb:b.told.length<=97000)(ha:pf.gG.natAbs<=ah)
  (h:VB C pf as o b w b'):N2 (Run C) pf (cy (.sel l as o)) b w b':=by
 intro b0 bb bC γ Q k;have DE:=(wV as 0 (ai hlen) ME).2;have PB:(cj b as o).told.length<=98000:=by show b.told.length+1+1<=_;exact ai hb
 show gz (ex G C 60) ((P.code aV).take 6++(P.code aV).drop 6) [(aM,.b 11),(aD,.d (cy (.sel l as o)))] (eU pf b0 b bb bC γ []) (fQ Q);refine bq fun R hR=>?_;refine FA hm hs qI hlen ME (by omega) fun rest d8=>?_;refine hR _ _ ?_;have e:(P.code aV).drop 6=((P.code aV).drop 6).take 1++(P.code aV).drop 7:=rfl;refine az (e) ?_;refine bq fun R2 tT=>?_;rcases h with⟨s,h1,rfl,h2⟩|⟨h1,rfl,rfl,rfl⟩|⟨s,h1,rfl,h2,h3⟩|⟨s,i,j,a,tx,h1,rfl,h2,h3,h4,h5,h6,h7,h8⟩|⟨i,j,a,tx,h1,rfl,h3,h4,h5,h6,h7,h8⟩
 ·rcases d8 with rfl|⟨a0,c0,d0,e0,f0,rfl⟩|⟨a0,c0,d0,e0,f0,g0,rfl⟩
  all_goals
   conv=>whnf
   refine az (h1) ?_
   conv=>whnf
   refine h2 b0 bb bC γ _ fun τ=>?_;rcases w with _|_
   ·exact k _
   ·exact k _
   ·exact k _
 ·rcases d8 with rfl|⟨a0,c0,d0,e0,f0,rfl⟩|⟨a0,c0,d0,e0,f0,g0,rfl⟩
  all_goals
   conv=>whnf
   refine az (h1) ?_
   conv=>whnf
   exact k _
 ·rcases d8 with rfl|⟨a0,c0,d0,e0,f0,rfl⟩|⟨a0,c0,d0,e0,f0,g0,rfl⟩
  all_goals
   conv=>whnf
   refine az (h1) ?_;refine(hr pf b0 (cj b as (some s)) bb bC γ (Int.ofNat 3) _ (by decide) ha).2 ?_;refine az (h2) ?_;refine h3 b0 bb bC γ _ fun τ=>?_;rcases w with _|_
   ·exact k _
   ·exact k _
   ·exact k _
 ·have go:∀rest,r6 rest->R2 (lI (cy (.sel l as (some s))) l (as.map eI) (rM (some s)) rest) (eU pf b0 (cj b as (some s)).ask bb bC γ [.yk (.list (opens 0 as))]):=fun rest d8=>
   tT _ _ (Dd (b:=(cj b as (some s)).ask) hm hr d8 PB ha (aZ hlen DE) (tn h1) h3 h4 h5 h6 h7 h8 k)
  rcases d8 with rfl|⟨a0,c0,d0,e0,f0,rfl⟩|⟨a0,c0,d0,e0,f0,g0,rfl⟩
  ·conv=>whnf
   refine az (h1) ?_;refine(hr pf b0 (cj b as (some s)) bb bC γ (Int.ofNat 3) _ (by decide) ha).2 ?_
   conv=>whnf
   split
   ·rename_i hd;exact absurd (of_decide_eq_true hd) h2
   ·conv=>whnf
    exact go _ (.inl rfl)
  ·conv=>whnf
   refine az (h1) ?_;refine(hr pf b0 (cj b as (some s)) bb bC γ (Int.ofNat 3) _ (by decide) ha).2 ?_
   conv=>whnf
   split
   ·rename_i hd;exact absurd (of_decide_eq_true hd) h2
   ·conv=>whnf
    exact go _ (.inr (.inl ⟨_,_,_,_,_,rfl⟩))
  ·conv=>whnf
   refine az (h1) ?_;refine(hr pf b0 (cj b as (some s)) bb bC γ (Int.ofNat 3) _ (by decide) ha).2 ?_
   conv=>whnf
   split
   ·rename_i hd;exact absurd (of_decide_eq_true hd) h2
   ·conv=>whnf
    exact go _ (.inr (.inr ⟨_,_,_,_,_,_,rfl⟩))
 ·have go:∀rest,r6 rest->R2 (lI (cy (.sel l as none)) l (as.map eI) (rM none) rest) (eU pf b0 (cj b as none) bb bC γ [.yk (.list (opens 0 as))]):=fun rest d8=>
   tT _ _ (Dd hm hr d8 PB ha (aZ hlen DE) (tn h1) h3 h4 h5 h6 h7 h8 k)
  rcases d8 with rfl|⟨a0,c0,d0,e0,f0,rfl⟩|⟨a0,c0,d0,e0,f0,g0,rfl⟩
  ·conv=>whnf
   refine az (h1) ?_;exact go _ (.inl rfl)
  ·conv=>whnf
   refine az (h1) ?_;exact go _ (.inr (.inl ⟨_,_,_,_,_,rfl⟩))
  ·conv=>whnf
   refine az (h1) ?_;exact go _ (.inr (.inr ⟨_,_,_,_,_,_,rfl⟩))
end
noncomputable def FC:Bk->Nat->Bk
 |b,0=>b
 |b,k+1=>FC (b.tell jU) k
theorem r9:∀(k:Nat) (b:Bk),(FC b k).told.length=b.told.length+k
 |0,_=>rfl
 |k+1,b=>by
  show(FC (b.tell jU) k).told.length=_;rw[r9 k];show b.told.length+1+k=_;omega
noncomputable def fy(pf:PF)(D0:Nat)(x:D)(b:Bk)(w:Way)(b':Bk):Prop:=∀d,D0<=d->tf (Cd G P d) pf x b w b'
noncomputable def WalkL(pf:PF)(D0:Nat)(ss:List D)(b:Bk)(w:Way)(b':Bk):Prop:=∀d,D0<=d->oR (Cd G P d) pf ss b w b'
noncomputable def After(X:PX)(M:Nat->Int)(a a':Nat)(kL:Option (Nat×Nat))(b:Bk)(w:Way)(b':Bk):Prop:=match w with
 |.done=>b'.told.length<=a'/\(bP X a' (.N []) b'->bP X a (.N []) b)
 |.left=>∃m k p,kL=some (m,k)/\M m=Int.ofNat p/\(FC b' k).told.length<=p/\p<=90000/\(bP X p (.N []) (FC b' k)->bP X a (.N []) b)
 |.gj=>b'.told.length<=90000/\(X.NA b'->bP X a (.N []) b)
noncomputable def lJ(M:Nat->Int)(kL:Option (Nat×Nat))(a':Nat):Prop:=∀m k,kL=some (m,k)->∃p:Nat,M m=Int.ofNat p/\a'<=p/\p<=90000
noncomputable def VD(X:PX)(M:Nat->Int)(D0 a a':Nat)(kL:Option (Nat×Nat))(x:D):Prop:=lJ M kL a'->∀b,b.told.length<=a->∃w b',fy X.pf D0 x b w b'/\After X M a a' kL b w b'
noncomputable def GU(X:PX)(M:Nat->Int)(D0 a a':Nat)(kL:Option (Nat×Nat))(ss:List D):Prop:=lJ M kL a'->∀b,b.told.length<=a->∃w b',WalkL X.pf D0 ss b w b'/\After X M a a' kL b w b'
theorem After.told{X:PX}{M:Nat->Int}{a a':Nat}{kL:Option (Nat×Nat)}{b b':Bk}{w:Way}(h:After X M a a' kL b w b')(ha:a'<=90000):b'.told.length<=90000:=by
 induction w using Way.casesOn with
 |done=>have:=h.1;exact aZ ha this
 |left=>
  obtain⟨m,k,p,_,_,h1,h2,_⟩:=h;rw[r9]at h1;exact aZ h1 h2
 |gj=>exact h.1
theorem After.pre{X:PX}{M:Nat->Int}{a0 a a':Nat}{kL:Option (Nat×Nat)}{b0 b b':Bk}{w:Way}(h:After X M a a' kL b w b')(k:bP X a (.N []) b->bP X a0 (.N []) b0):After X M a0 a' kL b0 w b':=by
 induction w using Way.casesOn with
 |done=>exact⟨h.1,fun z=>k (h.2 z)⟩
 |left=>
  obtain⟨m,n,p,e,em,h1,h2,h3⟩:=h;exact⟨m,n,p,e,em,h1,h2,fun z=>k (h3 z)⟩
 |gj=>exact⟨h.1,fun z=>k (h.2 z)⟩
theorem After.post{X:PX}{M:Nat->Int}{a a1 a':Nat}{kL:Option (Nat×Nat)}{b b1:Bk}{w:Way}(h:After X M a a1 kL b w b1)(k:w=.done->b1.told.length<=a1->b1.told.length<=a'/\(bP X a' (.N []) b1->bP X a1 (.N []) b1)):After X M a a' kL b w b1:=by
 induction w using Way.casesOn with
 |done=>obtain⟨k1,k2⟩:=k rfl h.1;exact⟨k1,fun z=>h.2 (k2 z)⟩
 |left=>exact h
 |gj=>exact h
noncomputable def iS(m1 m2:List Int):Prop:=m1.length<=m2.length/\∀m,m<m1.length->f9 m2 m=f9 m1 m
theorem iS.refl(m:List Int):iS m m:=⟨Nat.le_refl _,fun _ _=>rfl⟩
theorem iS.trans{m1 m2 m3:List Int}(h:iS m1 m2)(k:iS m2 m3):iS m1 m3:=⟨Nat.le_trans h.1 k.1,fun m hm=>(k.2 m (Nat.lt_of_lt_of_le hm h.1)).trans (h.2 m hm)⟩
theorem iS.new(m1:List Int)(x:Int):iS m1 (x::m1):=⟨Nat.le_succ _,fun m hm=>ju x hm⟩
theorem iS.set{m1 m2:List Int}(h:iS m1 m2){m:Nat}(v:Int)(hm:m1.length<=m)(PC:m<m2.length):iS m1 (eS m2 m v):=
 ⟨by rw[aE];exact h.1,fun j hj=>by rw[dH v PC (Nat.lt_of_lt_of_le hj h.1),if_neg (by exact Nat.ne_of_gt (aZ hm hj))];exact h.2 j hj⟩
noncomputable def lN(M:Nat->Int)(n:Nat)(m2:List Int):Prop:=∀m,n<=m->m<m2.length->f9 m2 m=M m
noncomputable def BS:Nat->Nat
 |0=>16
 |n+1=>6*BS n+200
noncomputable def tq(aB:List (Nat×Nat))(av:Nat):Option (Nat×Nat):=match aB with
 |[]=>none
 |p::_=>some (p.1,av-p.2)
noncomputable def sd(n:Nat):Row->Prop
 |.gJ m=>m<n
 |.j7 m=>m<n
 |.bu _ _ _ _ m=>m<n
 |.select _ ms m=>((∀k∈ms,k<n)/\ms.length<=50)/\m<n
 |_=>True
noncomputable def jx(n:Nat):List Row->Prop
 |[]=>True
 |x::l=>sd n x/\jx n l
theorem sd.mono{n n':Nat}(h:n<=n'):∀{x:Row},sd n x->sd n' x:=by
 intro x hx;rcases x with _|_<;>first|exact Nat.lt_of_lt_of_le hx h|trivial|exact⟨⟨fun k hk=>Nat.lt_of_lt_of_le (hx.1.1 k hk) h,hx.1.2⟩,Nat.lt_of_lt_of_le hx.2 h⟩
theorem jx.mono{n n':Nat}(h:n<=n'):∀{l:List Row},jx n l->jx n' l:=by
 intro l0
 induction l0 with
 |nil=>
  intro _;exact trivial
 |cons x0 Ji ih=>
  intro hl;exact⟨hl.1.mono h,ih hl.2⟩
theorem jx.app{n:Nat}:∀{a b:List Row},jx n a->jx n b->jx n (a++b):=by
 intro l0
 induction l0 with
 |nil=>
  intro _ _ h;exact h
 |cons x0 Ji ih=>
  intro _ ha hb;exact⟨ha.1,ih ha.2 hb⟩
theorem se(n:Nat)(t:Th):sd n (dD t):=by rcases t with _|_<;>trivial
theorem AK(n:Nat)(f:Option Th):jx n (cg f):=by
 induction f using Option.casesOn with
 |none=>trivial
 |some t=>exact⟨se n t,trivial⟩
theorem AL(n:Nat):∀l:List (Option Th),jx n (d7 l)
 |[]=>trivial
 |none::l=>(AL n l).app ⟨trivial,trivial,trivial,trivial⟩
 |some t::l=>(AL n l).app ⟨trivial,se n t,trivial⟩
theorem GV(n:Nat)(c:eR):jx n (aw c):=(AL n _).app ((AK n _).app ⟨se n _,trivial⟩)
theorem AM(n:Nat):∀k:Nat,jx n (List.replicate k .bL)
 |0=>trivial
 |k+1=>⟨trivial,AM n k⟩
structure Piece(Gd:PX->(Nat->Int)->Nat->Nat->Option (Nat×Nat)->Prop)(N:Nat)(aB:List (Nat×Nat))(av:Nat)(rr:List Row)(mr:List Int)(new:List Row)(gL:List Int):Prop where
 len:new.length<=N
 jX:gL.length<=mr.length+N
 keep:iS mr gL
 FD:jx gL.length new
 good:∀X M,nN X->gH X.pf.R M rr.length new->lN M mr.length gL->Gd X M rr.length (rr.length+new.length) (tq aB av)
noncomputable def De(aB:List (Nat×Nat))(av:Nat)(mr:List Int):Prop:=∀p∈aB,p.2<=av/\p.1<mr.length
noncomputable def DL(n:Nat):Nat:=10*n+10
noncomputable def AN(n N:Nat)(f:SF):=Piece (fun X M a a' kL=>VD X M (DL n-1) a a' kL (cy f)) N
noncomputable def qF(n N:Nat)(ss:List D):=Piece (fun X M a a' kL=>GU X M (DL n) a a' kL ss) N
noncomputable def fnOf:SF->Nat
 |.call _ _=>ia
 |.acc _ _ _ _ _=>gA
 |.rN _ _ _ _=>gC
 |.pS _ _ _ _ _ _ _=>gC
 |.sel _ _ _=>gC
 |.block _ _=>hZ
 |.dr _ _ _=>kS
 |.abort _ _=>kT
 |.cK _ _ _ _=>fY
 |.ret _=>j4
 |.null _=>lP
structure Pre(n:Nat)(sv:Bool)(rr:List Row)(mr:List Int)(aB:List (Nat×Nat))(av:Nat):Prop where
 rl:rr.length+2*BS n<=90000
 ml:mr.length+2*BS n<=90000
 sv:sv=true->aB≠[]
 bl:av+n<=5
 ac:De aB av mr
 al:aB.length+n<=10
structure N9(n:Nat)(sv:Bool)(rr:List Row)(mr:List Int)(aB:List (Nat×Nat))(av:Nat):Prop where
 rl:rr.length+4*BS n+10<=90000
 ml:mr.length+4*BS n+10<=90000
 sv:sv=true->aB≠[]
 bl:av+n<=5
 ac:De aB av mr
 al:aB.length+n<=10
theorem Zb{α:Type}{rr:List α}{k m:Nat}(h:(rr.drop 1).length+k<=m):rr.length+k<=m+1:=by
 rcases rr with _|⟨x,l⟩
 ·exact Nat.le_succ_of_le h
 ·show l.length+1+k<=m+1;rw[Nat.add_right_comm];exact Nat.succ_le_succ h
theorem WX{α:Type}{rr:List α}{a b c:Nat}(h:a+1<=rr.length+b+c):a<=(rr.drop 1).length+b+c:=by
 rcases rr with _|⟨x,l⟩
 ·exact Nat.le_of_succ_le h
 ·have h:a+1<=l.length+1+b+c:=h;rw[Nat.add_right_comm l.length,Nat.add_right_comm (l.length+b)]at h;exact Nat.le_of_succ_le_succ h
noncomputable def uv(n:Nat)(C:Cl)(sv:Bool)(f:SF):Prop:=∀(fr:Fr) (rr:List Row) (mr:List Int) (aB:List (Nat×Nat)) (av γ:Nat) (Q:KV),Pre n sv rr mr aB av->
 (∀new gL gE τ,AN n (BS n-1) f aB av rr mr new gL->Q (.d .none) (cS fr (new++rr) gL aB 0 av gE τ))->C (fnOf f) [.b 4,.d (cy f)] (cS fr rr mr aB 0 av γ []) Q
noncomputable def uw(n:Nat)(C:Cl)(sv:Bool)(ss:List D):Prop:=∀(fr:Fr) (rr:List Row) (mr:List Int) (aB:List (Nat×Nat)) (av γ:Nat) (Q:KV),N9 n sv rr mr aB av->
 (∀new gL gE τ,qF n (2*BS n) ss aB av rr mr new gL->Q (.d .none) (cS fr (new++rr) gL aB 0 av gE τ))->C bW [.b 4,.d (.list ss)] (cS fr rr mr aB 0 av γ []) Q
section
variable{X:PX}{M:Nat->Int}{a:Nat}{b:Bk}
theorem Oa(hX:nN X){t:Th}{u:Bool}(ht:gI t)(h:idx X.pf.R (Int.ofNat a)=some (bV M (.dr u)))(hb:b.told.length<=a)(k:bP X (a+1) (.N []) (b.tell (aO bE [.bool u] [bD t]))):bP X a (.N [bD t]) b:=
 have hl:=eW hX h
 aX hX h (by decide) (Nat.lt_succ_self a) (Iu eY (tk:=[bD t]) (rest:=[]) (aZ hb hl) rfl (by simp) (oQ (ek ht)) (AE u)) (.inl ⟨rfl,rfl⟩) k
theorem AO(hX:nN X){t:Th}(ht:gI t)(h:idx X.pf.R (Int.ofNat a)=some (bV M .abort))(hb:b.told.length<=a)(k:bP X (a+1) (.N []) (b.tell (aO d5 [] [bD t]))):bP X a (.N [bD t]) b:=
 have hl:=eW hX h
 aX hX h (by decide) (Nat.lt_succ_self a) (Iv eY (tk:=[bD t]) (rest:=[]) (aZ hb hl) rfl (by simp) (oQ (ek ht)) jv) (.inl ⟨rfl,rfl⟩) k
theorem uO(l:List Str):k7.N (l++[])=.N l:=by rw[List.append_nil]
theorem LF(hX:nN X){e:Bool}{aP:Option Th}{fm:Bool}(hf:fu aP)(h:idx X.pf.R (Int.ofNat a)=some (bV M (.accept (cE e) (bA aP) (dZ fm))))(hb:b.told.length<=a)(k:bP X (a+1) (.N []) (b.tell (aO bw (wQ e aP fm) (jb aP)))):bP X a (.N (jb aP)) b:=by
 have hl:=eW hX h;have hr:(jb aP).reverse=jb aP:=by rcases aP with _|_<;>rfl
 have hs:aA (.list ((jb aP).reverse.map PyData.str)):=by rw[hr];exact C8 hf
 have:=cT aP;have hd:=Fq (C:=Run X.C2) (pf:=X.pf) eY (tk:=jb aP) (rest:=[]) (b:=b) (f:=bA aP) (e:=cE e) (fm:=dZ fm) (aZ hb hl) (ko aP) (by rw[List.append_nil,ko];exact ai this) hs (C4 e fm ⟨bA aP,cT _⟩);rw[hr,uO]at hd;exact aX hX h (by decide) (Nat.lt_succ_self a) hd (.inl ⟨rfl,rfl⟩) k
theorem IS(hX:nN X){q:Bool}{aP:Option Th}{u:Bool}(hf:fu aP)(h:idx X.pf.R (Int.ofNat a)=some (bV M (.cK qm (bA aP) (qN q) u)))(hb:b.told.length<=a)(k:bP X (a+1) (.N []) (b.tell (aO cz (lH q aP u) (qT q++jb aP)))):bP X a (.N (jb aP++qT q)) b:=by
 have hl:=eW hX h;have hr:(jb aP++qT q).reverse=qT q++jb aP:=by rcases aP with _|_<;>rcases q with _|_<;>rfl
 have hs:aA (.list ((jb aP++qT q).reverse.map PyData.str)):=by rw[hr];exact rY q hf
 have:=cT aP;have hq:(qT q).length=qN q:=by rcases q with _|_<;>rfl
 have hq2:qN q<=1:=by rcases q with _|_<;>decide
 have hd:=CW (C:=Run X.C2) (pf:=X.pf) eY (tk:=jb aP++qT q) (rest:=[]) (b:=b) (f:=bA aP) (p:=qN q) (e:=qm) (u:=u) (by omega) (by rw[List.length_append,ko,hq]) (by rw[List.append_nil,List.length_append,ko,hq];exact aZ this hq2 (ai this (ai this))) hs (oT q u ⟨bA aP,cT _⟩);rw[hr,uO]at hd;exact aX hX h (by decide) (Nat.lt_succ_self a) hd (.inl ⟨rfl,rfl⟩) k
theorem RI(c:eR):i6 c none=[.str (cE c.ent),.int (.ofNat (bA c.aP)),.int (.ofNat c.args.length)]:=rfl
theorem Df(hX:nN X){c:eR}(hc:gq c)(h:idx X.pf.R (Int.ofNat a)=some (bV M (.jS (cE c.ent) (bA c.aP) c.args.length)))(hb:b.told.length<=a)(k:bP X (a+1) (.N []) (b.tell (eV none [] c))):bP X a (.N (cq [] c).reverse) b:=by
 have hl:=eW hX h;have hr:(cq [] c).reverse.reverse=cq [] c:=List.reverse_reverse _;have hS:=lG hc (ahead:=[]) (fun s hs=>by rcases hs with _|_) (by decide);have hP:=nF hc none;rw[RI]at hP;have h2:=hc.args.1;have h3:=cT c.aP;have hd:=yg (C:=Run X.C2) (pf:=X.pf) eY (tk:=(cq [] c).reverse) (rest:=[]) (b:=b) (f:=bA c.aP) (c:=c.args.length) (e:=cE c.ent) (by omega) (by rw[List.length_reverse,iJ,List.length_nil];omega) (by rw[List.append_nil,List.length_reverse,iJ,List.length_nil];exact aZ h2 h3 (ai h3 (ai h3))) (by rw[hr];exact hS) hP;rw[hr,uO]at hd;exact aX hX h (by decide) (Nat.lt_succ_self a) hd (.inl ⟨rfl,rfl⟩) k
theorem RJ(c:eR)(how:Option Bool):i6 c (some how)=[.str (cE c.ent),.int (.ofNat (bA c.aP)),.int (.ofNat c.args.length),.str (qE how)]:=rfl
theorem IT(hX:nN X){c:eR}{how:Option Bool}{ahead:List Str}{m p:Nat}(hc:gq c)(Ru:∀s∈ahead,kn s)(pV:ahead.length=CV how)(h:idx X.pf.R (Int.ofNat a)=some (bV M (.bu (cE c.ent) (bA c.aP) c.args.length how m)))(hm:M m=Int.ofNat p)(hp:a<p)(hb:b.told.length<=a)
  (k0:iA X.pf.gG (b.tell (eV (some how) ahead c)).ask.asked (Int.ofNat 2)=Int.ofNat 0->bP X p (.N []) (b.tell (eV (some how) ahead c)).ask)
  (k1:¬iA X.pf.gG (b.tell (eV (some how) ahead c)).ask.asked (Int.ofNat 2)=Int.ofNat 0->bP X (a+1) (.N []) (b.tell (eV (some how) ahead c)).ask):bP X a (.N (cq ahead c).reverse) b:=by
 have hl:=eW hX h;have hr:(cq ahead c).reverse.reverse=cq ahead c:=List.reverse_reverse _;have hn:CV how<=1:=by rcases how with _|_<;>simp[CV]
 have hS:=lG hc Ru (aZ (il pV) hn);have hP:=nF hc (some how);rw[RJ]at hP;have h2:=hc.args.1;have h3:=cT c.aP;have hd:=CX (C:=Run X.C2) (pf:=X.pf) eY rV (tk:=(cq ahead c).reverse) (rest:=[]) (b:=b) (f:=bA c.aP) (c:=c.args.length) (e:=cE c.ent) (how:=how) (m:=M m) (by omega) (by rw[List.length_reverse,iJ];exact Nat.le_antisymm (ai (il pV)) (ai (xq pV))) (by rw[List.append_nil,List.length_reverse,iJ];exact uB (il pV) hn h2 h3 (ai h3 (ai h3))) (by rw[hr];exact hS) hP hX.gG;rw[hr,uO]at hd;by_cases hz:iA X.pf.gG b.ask.asked (Int.ofNat 2)=Int.ofNat 0
 ·rw[yO hz,hm]at hd;rw[<-hm]at hd;refine aX hX h (by decide) hp hd (.inr (by rw[hm])) (k0 hz)
 ·rw[wC hz]at hd;exact aX hX h (by decide) (Nat.lt_succ_self a) hd (.inl ⟨rfl,rfl⟩) (k1 hz)
theorem tZ(hX:nN X):∀(k a:Nat) (b:Bk),gH X.pf.R M a (List.replicate k .bL)->b.told.length<=a->bP X (a+k) (.N []) (FC b k)->bP X a (.N []) b
 |0,_,_,_,_,h=>h
 |k+1,a,b,hf,hb,h=>by
  have e:List.replicate (k+1) Row.bL=List.replicate k .bL++[.bL]:=List.replicate_succ';rw[e]at hf;obtain⟨h1,h2⟩:=cw hf;refine wK hX h1.2 hb ?_;refine tZ hX k (a+1) (b.tell jU) h2 (by show b.told.length+1<=_;exact ai hb) ?_;refine az (show a+1+k=a+(k+1) by omega) ?_;exact h
end
theorem jy:∀{d:Nat},1<=d->MarkC (Cd G P d)
 |0,h=>absurd h (by decide)
 |_+1,_=>eY
theorem AP:∀{d:Nat},1<=d->mh (Cd G P d)
 |0,h=>absurd h (by decide)
 |_+1,_=>rV
theorem mn:∀{d:Nat},1<=d->kK (Cd G P d)
 |0,h=>absurd h (by decide)
 |_+1,_=>Rt
theorem Ob:∀{d:Nat},1<=d->Fw (Cd G P d)
 |0,h=>absurd h (by decide)
 |_+1,_=>NS
theorem Oc:∀{d:Nat},2<=d->Fy (Cd G P d)
 |0,h=>absurd h (by decide)
 |_+1,h=>NV (mn (ai h)) (jy (ai h))
theorem AQ:∀{d:Nat},3<=d->wG (Cd G P d)
 |0,h=>absurd h (by decide)
 |_+1,h=>NZ (mn (ai h)) (jy (ai h)) (Oc (ai h))
structure iw(C:Cl):Prop where
 lay:s8 C
 new:Rl C
 put:Rm C
 VE:GH C
 RK:GI C
 target:pF C
 family:uK C
 actuals:rT C
 wY:tc C
theorem iw.val{C:Cl}(h:iw C):CQ C:=Lk h.VE h.RK
theorem AR:∀{d:Nat},1<=d->wz (Cd G P d)
 |0,h=>absurd h (by decide)
 |_+1,_=>NJ
theorem VF:∀{d:Nat},2<=d->Rk (Cd G P d)
 |0,h=>absurd h (by decide)
 |_+1,h=>Vo (AR (ai h))
theorem t5:∀{d:Nat},3<=d->s8 (Cd G P d)
 |0,h=>absurd h (by decide)
 |_+1,h=>Vp (VF (ai h))
theorem VG:∀{d:Nat},1<=d->Rl (Cd G P d)
 |0,h=>absurd h (by decide)
 |_+1,_=>Vq
theorem VH:∀{d:Nat},1<=d->Rm (Cd G P d)
 |0,h=>absurd h (by decide)
 |_+1,_=>Vr
theorem LG:∀{d:Nat},4<=d->Aq (Cd G P d)
 |0,h=>absurd h (by decide)
 |_+1,h=>Li (t5 (ai h))
theorem LH:∀{d:Nat},4<=d->Ar (Cd G P d)
 |0,h=>absurd h (by decide)
 |_+1,h=>Lj (t5 (ai h))
theorem FE:∀{d:Nat},4<=d->s9 (Cd G P d)
 |0,h=>absurd h (by decide)
 |_+1,h=>Fg (t5 (ai h))
theorem LI:∀{d:Nat},5<=d->GH (Cd G P d)
 |0,h=>absurd h (by decide)
 |_+1,h=>Rn (LG (ai h))
theorem LJ:∀{d:Nat},5<=d->GI (Cd G P d)
 |0,h=>absurd h (by decide)
 |_+1,h=>Ro (LH (ai h))
theorem LK{d:Nat}(h:5<=d):CQ (Cd G P d):=Lk (LI h) (LJ h)
theorem Od:∀{d:Nat},5<=d->Fh (Cd G P d)
 |0,h=>absurd h (by decide)
 |_+1,h=>NM (FE (ai h))
theorem Dg:∀{d:Nat},6<=d->pF (Cd G P d)
 |0,h=>absurd h (by decide)
 |_+1,h=>Ll (Od (ai h)) (t5 (ai h))
theorem Dh:∀{d:Nat},6<=d->uK (Cd G P d)
 |0,h=>absurd h (by decide)
 |_+1,h=>Lm (LK (ai h))
theorem yS:∀{d:Nat},7<=d->rT (Cd G P d)
 |0,h=>absurd h (by decide)
 |_+1,h=>Il (LK (ai h)) (Dg (ai h)) (t5 (ai h))
theorem FF:∀{d:Nat},8<=d->tc (Cd G P d)
 |0,h=>absurd h (by decide)
 |_+1,h=>Fi (LK (ai h)) (Dh (ai h)) (yS (ai h))
theorem jz{d:Nat}(h:8<=d):iw (Cd G P d):=
 ⟨t5 (by omega),VG (by omega),VH (by omega),LI (by omega),LJ (by omega),Dg (by omega),Dh (by omega),yS (by omega),FF h⟩
theorem jY{pf:PF}{D0:Nat}{x:D}{b b':Bk}{w:Way}(h:∀d,D0<=d->tf (Run (Cd G P d)) pf x b w b'):fy pf (D0+1) x b w b':=fun d hd=>by
 obtain⟨d,rfl⟩:∃e,d=e+1:=⟨d-1,by exact(Nat.sub_add_cancel (ai hd)).symm⟩;exact h d (ai hd)
theorem t6(n:Nat):DL n-1=(10*n+8)+1:=by unfold DL;omega
section
variable{C:Cl}{n:Nat}{sv:Bool}
theorem i7:∀n,16<=BS n
 |0=>Nat.le_refl _
 |n+1=>by
  have:=i7 n;show 16<=6*BS n+200;omega
theorem GW{l:Int}:uv n (Run C) sv (.null l):=by
 intro fr rr mr aB av γ Q hp k;refine k [] mr γ [] ⟨Nat.zero_le _,Nat.le_add_right _ _,iS.refl _,trivial,fun X M hX hF hM hE b hb=>⟨.done,b,?_,hb,fun z=>z⟩⟩;show fy _ (DL n-1) _ _ _ _;rw[t6];exact jY fun d hd=>RB
theorem Di(hG:iw C){l:Int}{t:Th}{u:Bool}(ht:gI t):uv n (Run C) sv (.dr l t u):=by
 intro fr rr mr aB av γ Q hp k;have pH:=i7 n;have hr:=hp.rl;refine hG.lay .cP fr rr mr aB 0 av γ _ (ai hr) fun h1 e1=>?_;refine hG.val t fr (.cP::rr) mr aB h1 av γ _ (by rw[List.length_cons];exact ai hr) fun h2 e2=>?_;refine hG.lay (.dr u) fr (dD t::.cP::rr) mr aB h2 av γ _ (by rw[List.length_cons,List.length_cons];exact ai hr) fun h3 e3=>?_;have e:h3=0:=by
  refine az (e3) ?_;refine az (e2) ?_;refine az (e1) ?_;simp only[Bb];omega
 subst e;refine k [.dr u,dD t,.cP] mr γ [] ⟨by show 3<=BS n-1;exact aZ pH (DJ (BS n) (1)),Nat.le_add_right _ _,iS.refl _,⟨trivial,se _ _,trivial,trivial⟩,fun X M hX hF hM hE b hb=>?_⟩;refine bc fun bf=>?_;obtain⟨⟨⟨_,f1⟩,f2⟩,f3⟩:=hF;refine bf ?_;have hl:=eW hX f3;have hlen:rr.length+2<90000:=hl;refine⟨.done,(b.tell bF).tell (aO bE [.bool u] [bD t]),?_,by show b.told.length+1+1<=rr.length+3;exact ai hb,fun z=>?_⟩
 ·show fy _ (DL n-1) _ _ _ _;rw[t6];exact jY fun d hd=>N3 (jy (ai hd)) (mn (ai hd)) ht (aZ hb hlen)
 ·refine wJ hX f1 hb ?_;refine C3 hX ht (by decide) f2 ?_;refine Oa hX ht f3 (by show b.told.length+1<=rr.length+2;exact ai hb) ?_;exact z
theorem GX(hG:iw C){l:Int}{c:eR}(hc:gq c):uv n (Run C) sv (.call l c):=by
 intro fr rr mr aB av γ Q hp k;have pH:=i7 n;have hr:=hp.rl;have ha:=km c.args;have h2:=hc.args.1;have hf:=gu c.aP;have nV:=cT c.aP;have hlen:(aw c).length<=8:=by
  unfold aw;refine az (List.length_append) ?_;refine az (List.length_append) ?_;simp only[List.length_singleton];exact uB ha (qe 3 h2) (il hf) nV
 refine hG.wY l c fr rr mr aB 0 av γ _ h2 (ai hr) fun h1 e1=>?_;refine hG.lay (.jS (cE c.ent) (bA c.aP) c.args.length) fr (aw c++rr) mr aB h1 av γ _ (by rw[List.length_append];exact aZ hr hlen) fun h3 e3=>?_;have e:h3=0:=by
  refine az (e3) ?_;refine az (e1) ?_;simp only[Bb];omega
 subst e;refine k (.jS (cE c.ent) (bA c.aP) c.args.length::aw c) mr γ [] ⟨by rw[List.length_cons];exact jG pH hlen (DJ (BS n) (1)),Nat.le_add_right _ _,iS.refl _,⟨trivial,GV _ _⟩,fun X M hX hF hM hE b hb=>?_⟩;have f1:=hF.1;have f2:=hF.2;have hl:=eW hX f2;have ht:=rW c.args b;have LL:(bO b c.args).told.length<=rr.length+(aw c).length:=by
  have h3:=tY c.args hb;unfold aw;refine az (List.length_append) ?_;exact ai h3
 refine⟨.done,(bO b c.args).tell (eV none [] c),?_,by show(bO b c.args).told.length+1<=rr.length+((aw c).length+1);exact ai LL,fun z=>?_⟩
 ·show fy _ (DL n-1) _ _ _ _;rw[t6];exact jY fun d hd=>w_call (AQ (ai hd)) hc (aZ hb hl)
 ·refine LB hX hc (st:=[]) (by decide) f1 hb ?_;exact Df hX hc f2 LL z
theorem Dj(hG:iw C){l:Int}{ts:List Th}(h2:ts.length<=2)(ht:∀t∈ts,gI t):uv n (Run C) sv (.abort l ts):=by
 intro fr rr mr aB av γ Q hp k;have pH:=i7 n;have hr:=hp.rl
 match ts,h2,ht,k with
 |[],_,_,k=>
  refine k [] mr γ [] ⟨Nat.zero_le _,Nat.le_add_right _ _,iS.refl _,trivial,fun X M hX hF hM hE b hb=>⟨.done,b,?_,hb,fun z=>z⟩⟩;show fy _ (DL n-1) _ _ _ _;rw[t6];exact jY fun d hd=>AF (ts:=[]) (jy (ai hd)) (mn (by omega)) (by decide) (fun t h=>by rcases h with _|_) (aZ hr hb)
 |[t],h2,ht,k=>
  have t1:=ht t (by simp);refine hG.val t fr rr mr aB 0 av γ _ (ai hr) fun h1 e1=>?_;refine hG.lay .abort fr (dD t::rr) mr aB h1 av γ _ (by rw[List.length_cons];exact ai hr) fun yA e2=>?_;have e:yA=0:=by
   refine az (e2) ?_;refine az (e1) ?_;simp only[Bb];omega
  subst e;refine k [.abort,dD t] mr γ [] ⟨by show 2<=BS n-1;exact aZ pH (DJ (BS n) (1)),Nat.le_add_right _ _,iS.refl _,⟨trivial,se _ _,trivial⟩,fun X M hX hF hM hE b hb=>?_⟩;refine bc fun bf=>?_;obtain⟨⟨_,f1⟩,f2⟩:=hF;refine bf ?_;have hl:rr.length+1<90000:=eW hX f2;refine⟨.done,pG b [t],?_,by show b.told.length+1<=rr.length+2;exact ai hb,fun z=>?_⟩
  ·show fy _ (DL n-1) _ _ _ _;rw[t6];exact jY fun d hd=>AF (jy (by omega)) (mn (by omega)) h2 ht (aZ hb hl)
  ·refine C3 hX t1 (by decide) f1 ?_;exact AO hX t1 f2 (by show b.told.length<=rr.length+1;exact ai hb) z
 |[t,u],h2,ht,k=>
  have t1:=ht t (by simp);have t2:=ht u (by simp);refine hG.val t fr rr mr aB 0 av γ _ (ai hr) fun h1 e1=>?_;refine hG.lay .abort fr (dD t::rr) mr aB h1 av γ _ (by rw[List.length_cons];exact ai hr) fun yA e2=>?_;refine hG.val u fr (.abort::dD t::rr) mr aB yA av γ _ (by rw[List.length_cons,List.length_cons];exact ai hr) fun h3 e3=>?_;refine hG.lay .abort fr (dD u::.abort::dD t::rr) mr aB h3 av γ _ (by rw[List.length_cons,List.length_cons,List.length_cons];exact ai hr) fun h4 e4=>?_;have e:h4=0:=by
   refine az (e4) ?_;refine az (e3) ?_;refine az (e2) ?_;refine az (e1) ?_;simp only[Bb];omega
  subst e;refine k [.abort,dD u,.abort,dD t] mr γ [] ⟨by show 4<=BS n-1;exact aZ pH (DJ (BS n) (1)),Nat.le_add_right _ _,iS.refl _,⟨trivial,se _ _,trivial,se _ _,trivial⟩,fun X M hX hF hM hE b hb=>?_⟩;refine bc fun bf=>?_;obtain⟨⟨⟨⟨_,f1⟩,f2⟩,f3⟩,f4⟩:=hF;refine bf ?_;have hl:rr.length+3<90000:=eW hX f4;refine⟨.done,pG b [t,u],?_,by show b.told.length+1+1<=rr.length+4;exact ai hb,fun z=>?_⟩
  ·show fy _ (DL n-1) _ _ _ _;rw[t6];exact jY fun d hd=>AF (jy (by omega)) (mn (by omega)) h2 ht (aZ hb hl)
  ·refine C3 hX t1 (by decide) f1 ?_;refine AO hX t1 f2 (by show b.told.length<=rr.length+1;exact ai hb) ?_;refine C3 hX t2 (by decide) f3 ?_;exact AO hX t2 f4 (by show b.told.length+1<=rr.length+3;exact ai hb) z
 |_::_::_::_,h,_,_=>exact absurd h (by simp)
end
noncomputable def Dk(bk av:Nat)(rest:ak):ak:=(af,.b 4)::(c9,.d (.int (Int.ofNat bk)))::(aN,.d (.int (Int.ofNat 0)))::(qi,.d (.int (av:Int)))::(vq,.d (.int 0))::rest
noncomputable def FG(rest:ak):Prop:=rest=[]\/∃a,rest=[(sF,.d a)]
noncomputable def FH:List T:=[.expr (.call cB [(.var af),(.tup [(.c (.str fM))])])]
theorem Oe{C:Cl}(hl:s8 C){bk av:Nat}{fr:Fr}{mr:List Int}{aB:List (Nat×Nat)}{γ:Nat}{Q:KF}:∀(xs:List D) (rest:ak) (rr:List Row),FG rest->rr.length+xs.length<=100000->
  (∀aG,FG aG->Q .next (Dk bk av aG) (cS fr (List.replicate xs.length .bL++rr) mr aB 0 av γ []))->
  forL (ex G C 59) [sF] FH none xs (Dk bk av rest) (cS fr rr mr aB 0 av γ []) Q:=by
 intro l0
 induction l0 with
 |nil=>
  intro rest rr hr hb k;exact k rest hr
 |cons x xs ih=>
  intro rest rr hr hb k;rw[List.length_cons]at hb;refine az (dm) ?_;have go:∀R:ak->St->Prop,(∀aG,FG aG->R (Dk bk av aG) (cS fr (.bL::rr) mr aB 0 av γ []))->bind1 [sF] x (Dk bk av rest) fun d9=>gz (ex G C 59) FH d9 (cS fr rr mr aB 0 av γ []) (wo R Q):=by
   intro R hR;rcases hr with rfl|⟨a,rfl⟩
   all_goals
    refine hl .bL fr rr mr aB 0 av γ _ (ai hb) fun h1 e1=>?_;have e:h1=0:=by rw[e1];rfl
    subst e;exact hR [(sF,.d x)] (.inr ⟨_,rfl⟩)
  refine go _ fun aG jc=>?_;refine ih aG (.bL::rr) jc (by rw[List.length_cons];exact ai hb) fun gV um=>?_;have:=k gV um;rw[List.length_cons,List.replicate_succ',List.append_assoc]at this;exact this
noncomputable def AS(C:Cl):Prop:=∀(fr:Fr) (rr:List Row) (mr:List Int) (aB:List (Nat×Nat)) (av bk γ:Nat) (Q:KV),bk<=av->av<=100->rr.length<=95000->
 Q (.d .none) (cS fr (List.replicate (av-bk) .bL++rr) mr aB 0 av γ [])->C fN [.b 4,.d (.int (Int.ofNat bk)),.d (.int (Int.ofNat 0))] (cS fr rr mr aB 0 av γ []) Q
theorem LM{C:Cl}(hl:s8 C):AS (Run C):=by
 intro fr rr mr aB av bk γ Q hb VI hr k;have e:(P.code fN)=(P.code fN).take 1++([.gN [sF] (.sg (.bin .sub (.attr (.var af) c9) (.var c9))) FH]++(P.code fN).drop 2):=rfl;show gz (ex G C 60) (P.code fN) [(af,.b 4),(c9,.d (.int (Int.ofNat bk))),(aN,.d (.int (Int.ofNat 0)))] (cS fr rr mr aB 0 av γ []) (fQ Q);refine az (e) ?_;refine bq fun R hR=>?_;refine hR (Dk bk av []) (cS fr rr mr aB 0 av γ []) ?_;refine bq fun R2 tT=>?_;refine js fun F hF=>?_
 conv=>whnf
 have es:((av:Int)-Int.ofNat bk)=Int.ofNat (av-bk):=by simp only[Int.ofNat_eq_natCast];omega
 refine az (es) ?_;refine aj (by unfold ah;exact aZ VI (Nat.sub_le (av) (bk))) ?_;have xA:(eL (av-bk)).length=av-bk:=by unfold eL;rw[List.length_map,List.length_range]
 refine hF _ _ _ ?_;refine Oe hl (eL (av-bk)) [] rr (.inl rfl) (by rw[xA];exact jG VI hr (Nat.sub_le (av) (bk))) fun aG jc=>?_;refine az (xA) ?_;refine tT _ _ ?_;rcases jc with rfl|⟨a,rfl⟩
 all_goals
  refine⟨by show 9<=100;decide,?_⟩;refine⟨by show 9<=100;decide,?_⟩;exact k
noncomputable def AU(C:Cl):Prop:=∀(fr:Fr) (rr:List Row) (mr:List Int) (aB:List (Nat×Nat)) (av m bk γ:Nat) (Q:KV),bk<=av->av<=100->rr.length<=95000->
 Q (.d .none) (cS fr (.gJ m::(List.replicate (av-bk) .bL++rr)) mr ((m,bk)::aB) 0 av γ [])->C ny [.b 4] (cS fr rr mr ((m,bk)::aB) 0 av γ []) Q
theorem Of{C:Cl}(hb:AS C)(hl:s8 C):AU (Run C):=by
 intro fr rr mr aB av m bk γ Q h1 h2 h3 k;refine hb fr rr mr ((m,bk)::aB) av bk γ _ h1 h2 h3 ?_;refine hl (.gJ m) fr (List.replicate (av-bk) .bL++rr) mr ((m,bk)::aB) 0 av γ _ (by rw[List.length_append,List.length_replicate];exact jG h2 h3 (Nat.sub_le (av) (bk))) fun h' e=>?_;have e:h'=0:=by rw[e];rfl
 subst e;exact k
theorem LN:∀{d:Nat},4<=d->AS (Cd G P d)
 |0,h=>absurd h (by decide)
 |_+1,h=>LM (t5 (ai h))
theorem uP:∀{d:Nat},5<=d->AU (Cd G P d)
 |0,h=>absurd h (by decide)
 |_+1,h=>Of (LN (ai h)) (t5 (ai h))
theorem wZ{X:PX}{M:Nat->Int}{a:Nat}{b:Bk}(hX:nN X){k m p:Nat}(hf:gH X.pf.R M a (.gJ m::List.replicate k .bL))(hb:b.told.length<=a)(hm:M m=Int.ofNat p)(hp:a+k+1<=p)(z:bP X p (.N []) (FC b k)):bP X a (.N []) b:=by
 have h1:=hf.1;have h2:=hf.2;rw[List.length_replicate]at h2;refine tZ hX k a b h1 hb ?_;exact wL hX h2 hm (ai hp) z
section
variable{C:Cl}{n:Nat}{sv:Bool}
theorem GY{aB:List (Nat×Nat)}{av:Nat}{mr:List Int}(h:aB≠[])(ha:De aB av mr):∃m bk nT,aB=(m,bk)::nT/\bk<=av:=by
 induction aB using List.casesOn with
 |nil=>exact absurd rfl h
 |cons p nT=>exact⟨p.1,p.2,nT,rfl,(ha p List.mem_cons_self).1⟩
theorem LO(hL:AU C){l:Int}(hs:sv=true):uv n (Run C) sv (.ret l):=by
 intro fr rr mr aB av γ Q hp k;have pH:=i7 n;have hr:=hp.rl;have CL:=hp.bl;refine bc fun bf=>?_;obtain⟨m,bk,nT,rfl,WY⟩:=GY (hp.sv hs) hp.ac;refine bf ?_;refine hL fr rr mr nT av m bk γ _ WY (ai CL) (ai hr) ?_;refine k (.gJ m::List.replicate (av-bk) .bL) mr γ [] ⟨by rw[List.length_cons,List.length_replicate];exact uB pH CL (Nat.sub_le (av) (bk)) (DJ (BS n) (1)),Nat.le_add_right _ _,iS.refl _,⟨(hp.ac (m,bk) List.mem_cons_self).2,AM _ _⟩,fun X M hX hF hM hE b hb=>?_⟩;refine bc fun bf=>?_;obtain⟨p,e1,e2,e3⟩:=hE m (av-bk) rfl;refine bf ?_;have e2:rr.length+((List.replicate (av-bk) Row.bL).length+1)<=p:=e2;rw[List.length_replicate]at e2;refine⟨.left,b,?_,m,av-bk,p,rfl,e1,by rw[r9];exact aZ hb e2,e3,fun z=>?_⟩
 ·show fy _ (DL n-1) _ _ _ _;rw[t6];exact jY fun d hd=>Vx
 ·exact wZ hX hF hb e1 (ai e2) z
theorem w5(hG:iw C)(hL:AU C){l:Int}{q:Bool}{aP:Option Th}{u:Bool}(hs:sv=true)(hf:fu aP):uv n (Run C) sv (.cK l q aP u):=by
 intro fr rr mr aB av γ Q hp k;have pH:=i7 n;have hr:=hp.rl;have CL:=hp.bl;have Dl:=gu aP;have nV:=cT aP;obtain⟨m,bk,nT,rfl,WY⟩:=GY (hp.sv hs) hp.ac;have fin:∀(qr:List Row),qr.length=qN q->jx mr.length qr->(∀(X:PX) (M:Nat->Int) (a:Nat) (b:Bk),nN X->gH X.pf.R M a qr->bP X (a+qN q) (.N (qT q)) b->bP X a (.N []) b)->
   AN n (BS n-1) (.cK l q aP u) ((m,bk)::nT) av rr mr ((.gJ m::List.replicate (av-bk) .bL)++([.cK qm (bA aP) (qN q) u]++(cg aP++qr))) mr:=by
  intro qr hq hqm LQ;have hq1:qN q<=1:=by cases q<;>decide
  refine⟨?_,Nat.le_add_right _ _,iS.refl _,jx.app (a:=.gJ m::List.replicate (av-bk) .bL) ⟨(hp.ac (m,bk) List.mem_cons_self).2,AM _ _⟩ (jx.app (a:=[.cK qm (bA aP) (qN q) u]) ⟨trivial,trivial⟩ ((AK _ _).app hqm)),fun X M hX hF hM hE b hb=>?_⟩
  ·simp only[List.length_append,List.length_cons,List.length_replicate,List.length_nil,Dl,hq];exact fk6 pH CL nV hq1 (Nat.sub_le (av) (bk)) (DJ (BS n) (1))
  ·obtain⟨p,e1,e2,e3⟩:=hE m (av-bk) rfl;simp only[List.length_append,List.length_cons,List.length_replicate,List.length_nil,Dl,hq]at e2;have FI:=cw hF;have g1:=FI.1;have g2:=FI.2;clear FI;have FJ:=cw g1;have g3:=FJ.1;have g4:=FJ.2;clear FJ;have FK:=cw g3;have g5:=FK.1;have g6:=FK.2;clear FK;have l1:rr.length+qr.length=rr.length+qN q:=by rw[hq]
   have l2:rr.length+(cg aP++qr).length=rr.length+qN q+bA aP:=by rw[List.length_append,Dl,hq];omega
   have l3:rr.length+([Row.cK qm (bA aP) (qN q) u]++(cg aP++qr)).length=rr.length+qN q+bA aP+1:=by
    simp only[List.length_append,List.length_cons,List.length_nil,Dl,hq];omega
   rw[l1]at g6;rw[l2]at g4;rw[l3]at g2;have hl:=eW hX g4.2;have hl:rr.length+qN q+bA aP<90000:=hl;refine⟨.left,b.tell (aO cz (lH q aP u) (qT q++jb aP)),?_,m,av-bk,p,rfl,e1,by rw[r9];show b.told.length+1+(av-bk)<=p;exact aZ hb e2,e3,fun z=>?_⟩
   ·show fy _ (DL n-1) _ _ _ _;rw[t6];exact jY fun d hd=>IF (jy (ai hd)) (mn (ai hd)) (Ob (ai hd)) hf (aZ hr hb)
   ·refine LQ X M _ b hX g5 ?_;have hqT:(qT q).length<=1:=by cases q<;>simp[qT]
    refine LA hX hf (by omega) g6 ?_;refine IS hX hf g4.2 (by show b.told.length<=rr.length+qN q+bA aP;exact ai hb) ?_;exact wZ hX g2 (by show b.told.length+1<=_;exact ai hb) e1 (ai e2) z
 show gz (ex G C 60) ((P.code fY).take 2++(P.code fY).drop 2) [(af,.b 4),(aD,.d (cy (.cK l q aP u)))] (cS fr rr mr ((m,bk)::nT) 0 av γ []) (fQ Q);refine bq fun R hR=>?_;refine hR [(af,.b 4),(aD,.d (cy (.cK l q aP u))),(bH,.d (.str cz)),(ba,.d (.int l)),(mB,.d (Vg q)),(nc,.d (.str qm)),(cI,.d (qB aP)),(ng,.d (.bool u)),(kQ,.d (.int (.ofNat 0)))] (cS fr rr mr ((m,bk)::nT) 0 av γ []) ?_;clear hR R
 induction q using Bool.casesOn with
 |false=>
  refine hG.family aP fr rr mr ((m,bk)::nT) 0 av γ _ (ai hr) fun h1 e1=>?_;refine hG.lay (.cK qm (bA aP) 0 u) fr (cg aP++rr) mr ((m,bk)::nT) h1 av γ _ (by rw[List.length_append];exact jG hr (il Dl) nV (ai nV (ai nV))) fun h2 e2=>?_;have e:h2=0:=by
   refine az (e2) ?_;refine az (e1) ?_;simp only[Bb];omega
  subst e;refine hL fr (.cK qm (bA aP) 0 u::(cg aP++rr)) mr nT av m bk γ _ WY (ai CL) (by rw[List.length_cons,List.length_append];exact jG hr (il Dl) nV (ai nV (ai nV))) ?_;have kk:=k _ mr γ [] (fin [] rfl trivial fun X M a b _ _ z=>z);simp only[List.append_nil,List.cons_append,List.append_assoc,List.nil_append]at kk;exact kk
 |true=>
  refine hG.VE (.ofNat 0) Ba fr rr mr ((m,bk)::nT) 0 av γ _ (ai hr) fun h0 e0=>?_;refine hG.family aP fr (.obj (.ofNat 0) Ba::rr) mr ((m,bk)::nT) h0 av γ _ (by rw[List.length_cons];exact ai hr) fun h1 e1=>?_;refine hG.lay (.cK qm (bA aP) 1 u) fr (cg aP++.obj (.ofNat 0) Ba::rr) mr ((m,bk)::nT) h1 av γ _ (by rw[List.length_append,List.length_cons];exact jG hr (il Dl) nV (ai nV (ai nV))) fun h2 e2=>?_;have e:h2=0:=by
   refine az (e2) ?_;refine az (e1) ?_;refine az (e0) ?_;simp only[Bb];omega
  subst e;refine hL fr (.cK qm (bA aP) 1 u::(cg aP++.obj (.ofNat 0) Ba::rr)) mr nT av m bk γ _ WY (ai CL) (by rw[List.length_cons,List.length_append,List.length_cons];exact jG hr (il Dl) nV (ai nV (ai nV))) ?_;have kk:=k _ mr γ [] (fin [.obj (.ofNat 0) Ba] rfl ⟨trivial,trivial⟩ fun X M a b hX hF z=>Rz hX (by decide) hF.2 z);simp only[List.cons_append,List.append_assoc,List.nil_append]at kk;exact kk
end
noncomputable def FL(fr:Fr)(rr:List Row)(mr:List Int)(aB:List (Nat×Nat))(h av:Int)(o8:Option aL)(γ:Nat)(τ:List aL):St:=
 ⟨[some (mO fr.ns fr.sp fr.line fr.left),some (GG fr.body),some nE,some rS,some (Ff h av),some (.list [] (rr.map (bV M0))),some (.list [] (mr.map PyData.int)),some (.list (aB.map tS) []),
  o8,none,none,none,none,none,none,none,some qc,some oO,some pE,some (.dict [])],τ,γ⟩
noncomputable def LR(C:Cl):Prop:=∀(fr:Fr) (rr:List Row) (mr:List Int) (aB:List (Nat×Nat)) (h av:Int) (o8:Option aL) (γ:Nat) (Q:KV),mr.length<=100000->
 Q (.d (.int (.ofNat mr.length))) (FL fr rr (-1::mr) aB h av o8 γ [])->C dz [.b 4] (FL fr rr mr aB h av o8 γ []) Q
theorem RL{C:Cl}:LR (Run C):=by
 intro fr rr mr aB h av o8 γ Q hl k;refine⟨by show 0+(mr.map PyData.int).length<ah;rw[List.length_map];unfold ah;exact ai hl,?_⟩;refine aj (by show 0+((mr.map PyData.int).length+1)<=ah;rw[List.length_map];unfold ah;exact ai hl) ?_;have e:(Int.ofNat (0+((mr.map PyData.int).length+1))-Int.ofNat 1)=Int.ofNat mr.length:=by
  rw[List.length_map];simp only[Int.ofNat_eq_natCast];omega
 have kk:Q (.d (.int (Int.ofNat (0+((mr.map PyData.int).length+1))-Int.ofNat 1))) (FL fr rr (-1::mr) aB h av o8 γ []):=by rw[e];exact k
 exact kk
noncomputable def part8(m av:Nat):aL:=.inst 1 [(j1,.d .none),(eX,.d (.int (Int.ofNat m))),(aN,.d (.int 0)),(c9,.d (.int (av:Int)))]
noncomputable def LS(C:Cl):Prop:=∀(fr:Fr) (rr:List Row) (mr:List Int) (aB:List (Nat×Nat)) (av γ:Nat) (Q:KV),mr.length<=100000->
 Q (.d .none) (FL fr rr (-1::mr) aB 0 av (some (part8 mr.length av)) γ [])->C 7 [.b 8,.b 4,.d .none] (FL fr rr mr aB 0 av (some (.inst 1 [])) γ []) Q
theorem RN{C:Cl}(hn:LR C):LS (Run C):=by
 intro fr rr mr aB av γ Q hl k;refine⟨by show 0<=100;decide,?_⟩;refine hn fr rr mr aB 0 av (some (.inst 1 [(j1,.d .none)])) γ _ hl ?_;refine⟨rfl,?_⟩;refine⟨by show 1<=100;decide,?_⟩;refine⟨by show 2<=100;decide,?_⟩;refine⟨by show 3<=100;decide,?_⟩;exact k
theorem yT:∀(aB:List (Nat×Nat)),kO 8 (aB.map tS)=true
 |[]=>rfl
 |p::aB=>yT aB
theorem IU{fr:Fr}{rr:List Row}{mr:List Int}{aB:List (Nat×Nat)}{h av:Int}{o8:aL}{m:Nat}(h8:o8=part8 m av.toNat){γ:Nat}{τ:List aL}:lX 8 (FL fr rr mr aB h av (some o8) γ τ).base=true:=by
 subst h8;show(true&&(true&&(true&&(true&&(true&&(true&&(true&&(kO 8 (aB.map tS)&&true))))))))=true;rw[yT];rfl
noncomputable def VJ(X:PX)(M:Nat->Int)(D0 a a':Nat)(ss:List D):Prop:=∀b,b.told.length<=a->∃w b',WalkL X.pf D0 ss b w b'/\b'.told.length<=90000/\(match w with
 |.gj=>X.NA b'->bP X a (.N []) b
 |_=>b'.told.length+1<=a'/\(bP X a' (.N []) (b'.tell fP)->bP X a (.N []) b))
noncomputable def RO(n:Nat)(ss:List D):=Piece (fun X M a a' _=>VJ X M (DL n) a a' ss) (2*BS n+1)
noncomputable def LU(n:Nat)(C:Cl)(ss:List D):Prop:=∀(fr:Fr) (rr:List Row) (mr:List Int) (aB:List (Nat×Nat)) (av γ:Nat) (Q:KV),rr.length+4*BS n<=89900->mr.length+4*BS n<=89900->av+n<=5->De aB av mr->aB.length+1+n<=10->
 (∀new gL gE τ,RO n ss aB av rr mr new gL->Q (.d .none) (cS fr (new++rr) gL aB 0 av gE τ))->C ee [.b 4,.d (.list ss)] (cS fr rr mr aB 0 av γ []) Q
theorem qG{M:Nat->Int}{n:Nat}{m1:List Int}{m v:Nat}(h:lN M n (eS m1 m v))(hm:m<n)(hn:n<=m1.length):lN M n m1:=fun j h1 h2=>by
 have:=h j h1 (by rw[aE];exact h2);rw[dH _ (aZ hm hn) h2,if_neg (by exact Nat.ne_of_lt (aZ hm h1))]at this;exact this
theorem LV{M:Nat->Int}{n:Nat}{m1:List Int}{m:Nat}{v:Int}(h:lN M n (eS m1 m v))(h1:n<=m)(h2:m<m1.length):M m=v:=by
 have:=h m h1 (by rw[aE];exact h2);rw[dH _ h2 h2,if_pos rfl]at this;exact this.symm
theorem oV{M:Nat->Int}{n n':Nat}{m1:List Int}(h:lN M n m1)(hn:n<=n'):lN M n' m1:=fun j h1 h2=>h j (aZ hn h1) h2
theorem w6{C:Cl}{n:Nat}{ss:List D}(hN:LS C)(hG:iw C)(hS:uw n C true ss):LU n (Run C) ss:=by
 intro fr rr mr aB av γ Q hr hm CL WZ pV k;have pH:=i7 n;show gz (ex G C 60) ((P.code ee).take 1++(((P.code ee).drop 1).take 1++(P.code ee).drop 2)) [(af,.b 4),(bo,.d (.list ss))] (cS fr rr mr aB 0 av γ []) (fQ Q);refine bq fun R hR=>?_;refine hN fr rr mr aB av (γ+1) _ (ai hm) ?_;have SO:lX 8 (FL fr rr (-1::mr) aB 0 av (some (part8 mr.length av)) (γ+1) []).base=true:=IU (m:=mr.length) rfl;refine⟨rfl,?_⟩
 conv=>whnf
 generalize hNb:lX 8 _=nb;have hnb:nb=true:=hNb.symm.trans SO;subst hnb
 conv=>whnf
 refine hR [(af,.b 4),(bo,.d (.list ss)),(l6,tS (mr.length,av))] (cS fr rr (-1::mr) aB 0 av (γ+2) []) ?_;clear hR R hNb SO;refine bq fun R hR=>?_;have go:R [(af,.b 4),(bo,.d (.list ss)),(l6,tS (mr.length,av))] (cS fr rr (-1::mr) ((mr.length,av)::aB) 0 av (γ+2) []):=by
  refine hR _ _ ?_;clear hR R;have Zc:De ((mr.length,av)::aB) av (-1::mr):=by
   intro p hp;rw[List.length_cons];rcases List.mem_cons.mp hp with rfl|hp
   ·exact⟨Nat.le_refl _,Nat.lt_succ_self _⟩
   ·have:=WZ p hp;exact⟨this.1,by exact ai this.2⟩
  refine hS fr rr (-1::mr) ((mr.length,av)::aB) av (γ+2) _ ⟨by exact ai hr,by rw[List.length_cons];exact ai hm,(fun _=>by simp),CL,Zc,by rw[List.length_cons];omega⟩ fun new iT oW SP hP=>?_;have hk:=hP.keep;have SQ:=hP.len;have DG:=hP.jX;rw[List.length_cons]at DG;have FN:mr.length+1<=iT.length:=hk.1;refine aj (by show(aB.map tS).length+0<=ah;rw[List.length_map];unfold ah;exact ai pV) ?_;refine hG.put fr (new++rr) iT aB 0 av oW mr.length (Int.ofNat 0) _ (by rw[List.length_append];exact aZ hr SQ) (aZ hm DG) (ai FN) ?_;refine hG.lay .i5 fr (new++rr) (eS iT mr.length (new++rr).length) aB (Int.ofNat 0) av oW _ (by rw[List.length_append];exact aZ hr SQ) fun h' e=>?_;have e:h'=0:=by rw[e];rfl
  subst e;refine k (.i5::new) _ oW [] ⟨by rw[List.length_cons];exact ai SQ,by rw[aE];exact ai DG,?_,⟨trivial,by rw[aE];exact hP.FD⟩,fun X M hX hF hM b hb=>?_⟩
  ·refine iS.set ⟨by exact ai FN,fun j hj=>?_⟩ _ (Nat.le_refl _) (ai FN);rw[hk.2 j (by rw[List.length_cons];exact ai hj),ju _ hj]
  ·obtain⟨f1,f2⟩:=hF;have hlen:(new++rr).length=rr.length+new.length:=by rw[List.length_append];omega
   have hMm:M mr.length=Int.ofNat (rr.length+new.length):=by
    have:=LV hM (Nat.le_refl _) (ai FN:mr.length<iT.length);rw[this,hlen];rfl
   have hl:=eW hX f2;have Zd:lN M (-1::mr).length iT:=by
    have:=oV hM (Nat.le_succ mr.length);refine az (List.length_cons) ?_;exact qG this (by omega) (by omega)
   obtain⟨w,b',hw,ha⟩:=hP.good X M hX f1 Zd (by
    intro m q he;simp only[tq]at he;rcases he with _|_;exact⟨_,hMm,Nat.le_refl _,by exact ai hl⟩) b hb
   have LL:=ha.told (ai hl);refine⟨w,b',hw,LL,?_⟩
   induction w using Way.casesOn with
   |done=>
    have e1:rr.length+(Row.i5::new).length=rr.length+new.length+1:=by rw[List.length_cons];omega
    refine az (e1) ?_;have h1:=ha.1;exact⟨by exact ai h1,fun z=>ha.2 (tX hX f2 h1 z)⟩
   |left=>
    obtain⟨m,q,p,he,Hf,h1,h2,h3⟩:=ha;simp only[tq,Nat.sub_self]at he;rcases he with _|_;have hp:p=rr.length+new.length:=by
     have:=Hf.symm.trans hMm;exact Int.ofNat.inj this
    subst hp;have e1:rr.length+(Row.i5::new).length=rr.length+new.length+1:=by rw[List.length_cons];omega
    refine az (e1) ?_;have h1:b'.told.length<=rr.length+new.length:=h1;exact⟨by exact ai h1,fun z=>h3 (tX hX f2 h1 z)⟩
   |gj=>exact ha.2
 induction aB using List.casesOn with
 |nil=>
  refine⟨by decide,?_⟩;exact go
 |cons p aB=>
  refine⟨by rw[List.length_map];show(p::aB).length+0<ah;unfold ah;exact ai pV,?_⟩;exact go
theorem uQ{M:Nat->Int}{n:Nat}{m1 m2:List Int}(hk:iS m1 m2)(h:lN M n m2):lN M n m1:=fun j h1 h2=>by
 have:=h j h1 (Nat.lt_of_lt_of_le h2 hk.1);rw[hk.2 j h2]at this;exact this
theorem GZ{n2 n:Nat}(h:n2<=n):BS n2<=BS n:=by
 induction n with
 |zero=>
  have:n2=0:=by exact Nat.le_antisymm (ai h) (by omega)
  subst this;exact Nat.le_refl _
 |succ n ih=>
  by_cases e:n2=n+1
  ·subst e;exact Nat.le_refl _
  ·have:=ih (by omega);show BS n2<=6*BS n+200;exact ai this
theorem dG(n:Nat):BS (n+1)=6*BS n+200:=rfl
theorem VK(n:Nat):DL (n+1)-1=(10*n+18)+1:=by unfold DL;omega
section
variable{C:Cl}{n:Nat}{sv:Bool}
theorem WalkL.at_{pf:PF}{D0 d:Nat}{ss:List D}{b b':Bk}{w:Way}(h:WalkL pf D0 ss b w b')(hd:D0<=d):oR (Cd G P d) pf ss b w b':=h d hd
theorem RP(hG:iw C){l:Int}{e:Bool}{aP:Option Th}{fm:Bool}{body:List D}(hf:fu aP)(hA:LU n C body):uv (n+1) (Run C) sv (.acc l e aP fm body):=by
 intro fr rr mr aB av γ Q hp k;have pH:=i7 n;have hr:=hp.rl;have hm:=hp.ml;rw[dG]at hr hm;have CL:=hp.bl;have pV:=hp.al;have Dl:=gu aP;have nV:=cT aP;show gz (ex G C 60) ((P.code gA).take 1++(P.code gA).drop 1) [(af,.b 4),(aD,.d (cy (.acc l e aP fm body)))] (cS fr rr mr aB 0 av γ []) (fQ Q);refine bq fun R hR=>?_;refine hR [(af,.b 4),(aD,.d (cy (.acc l e aP fm body))),(bH,.d (.str bw)),(ba,.d (.int l)),(nc,.d (.str (cE e))),(cI,.d (qB aP)),(sH,.d (dZ fm)),(bo,.d (.list body))] (cS fr rr mr aB 0 av γ []) ?_;clear hR R;refine hG.lay .cP fr rr mr aB 0 av γ _ (ai hr) fun h1 e1=>?_;refine hG.family aP fr (Row.cP::rr) mr aB h1 av γ _ (by rw[List.length_cons];exact ai hr) fun h2 e2=>?_;refine hG.lay (.accept (cE e) (bA aP) (dZ fm)) fr (cg aP++Row.cP::rr) mr aB h2 av γ _ (by rw[List.length_append,List.length_cons];exact jG hr (il Dl) nV (ai nV (ai nV))) fun h3 e3=>?_;have e0:h3=0:=by
  refine az (e3) ?_;refine az (e2) ?_;refine az (e1) ?_;simp only[Bb];omega
 subst e0;have hlen:(Row.accept (cE e) (bA aP) (dZ fm)::(cg aP++Row.cP::rr)).length=rr.length+bA aP+2:=by
  simp only[List.length_cons,List.length_append,Dl];omega
 refine hA fr (.accept (cE e) (bA aP) (dZ fm)::(cg aP++Row.cP::rr)) mr aB av γ _ (by rw[hlen];exact aZ hr nV (ai nV (ai nV))) (ai hm) (ai CL) hp.ac (ai pV) fun new gL gE τ hP=>?_;have LW:=hP.len;have MF:=hP.jX;have e4:new++Row.accept (cE e) (bA aP) (dZ fm)::(cg aP++Row.cP::rr)=(new++([Row.accept (cE e) (bA aP) (dZ fm)]++(cg aP++[Row.cP])))++rr:=by simp
 have kk:=k (new++([Row.accept (cE e) (bA aP) (dZ fm)]++(cg aP++[Row.cP]))) gL gE [] ⟨?_,?_,hP.keep,hP.FD.app (jx.app (a:=[Row.accept (cE e) (bA aP) (dZ fm)]) ⟨trivial,trivial⟩ ((AK _ _).app ⟨trivial,trivial⟩)),fun X M hX hF hM hE b hb=>?_⟩
 ·rw[<-e4]at kk;exact kk
 ·rw[dG];simp only[List.length_append,List.length_cons,List.length_nil,Dl];exact jG nV LW (DJ (6*BS n+200) (1)) (ai nV)
 ·rw[dG];exact aZ MF (DJ (6*BS n+200) (1))
 ·obtain⟨g1,g2⟩:=cw hF;have FJ:=cw g1;have g3:=FJ.1;have g4:=FJ.2;clear FJ;have FK:=cw g3;have g5:=FK.1;have g6:=FK.2;clear FK;have l2:rr.length+(cg aP++[Row.cP]).length=rr.length+1+bA aP:=by rw[List.length_append,Dl,List.length_singleton];omega
  have l3:rr.length+([Row.accept (cE e) (bA aP) (dZ fm)]++(cg aP++[Row.cP])).length=rr.length+bA aP+2:=by
   simp only[List.length_append,List.length_cons,List.length_nil,Dl];omega
  rw[l2]at g4;rw[l3]at g2;have Ze:rr.length+(new++([Row.accept (cE e) (bA aP) (dZ fm)]++(cg aP++[Row.cP]))).length=rr.length+bA aP+2+new.length:=by
   rw[List.length_append,<-l3];omega
  have PD:=hP.good X M hX (by rw[hlen];exact g2) hM;rw[hlen]at PD;have Zf:=eW hX g4.2;have Zf:rr.length+1+bA aP<90000:=Zf;refine bc fun bf=>?_;obtain⟨w,b',hw,LL,ha⟩:=PD (uM b e aP fm) (by show b.told.length+1+1<=_;exact ai hb);refine bf ?_;refine⟨Vy w,N4 w b' fP,?_,?_⟩
  ·show fy _ (DL (n+1)-1) _ _ _ _;rw[VK];exact jY fun d hd=>Vz (jy (ai hd)) (mn (ai hd)) hf (aZ hb Zf) (by omega) (hw.at_ (by unfold DL;exact ai hd))
  ·refine az (Ze) ?_;have mV:bP X (rr.length+bA aP+2) (.N []) (uM b e aP fm)->bP X rr.length (.N []) b:=fun z=>by
    refine wJ hX g5.2 hb ?_;refine LA hX hf (by decide) g6 ?_;rw[List.append_nil];refine LF hX hf g4.2 (by show b.told.length+1<=rr.length+1+bA aP;exact ai hb) ?_;have e5:rr.length+1+bA aP+1=rr.length+bA aP+2:=by omega
    refine az (e5) ?_;exact z
   induction w using Way.casesOn with
   |done=>exact⟨ha.1,fun z=>mV (ha.2 z)⟩
   |left=>exact⟨ha.1,fun z=>mV (ha.2 z)⟩
   |gj=>exact⟨LL,fun z=>mV (ha z)⟩
noncomputable def LX(C:Cl):Prop:=∀(fr:Fr) (rr:List Row) (mr:List Int) (aB:List (Nat×Nat)) (h av:Int) (γ:Nat) (Q:KV),Q (.d .none) (cS fr rr mr aB h av γ [])->C kH [.b 4,.d (.list [])] (cS fr rr mr aB h av γ []) Q
theorem RQ:LX (Run C):=by
 intro fr rr mr aB h av γ Q k;exact k
theorem LY:∀{d:Nat},1<=d->LX (Cd G P d)
 |0,h=>absurd h (by decide)
 |_+1,_=>RQ
noncomputable def G0(n:Nat)(C:Cl)(ss:List D)(er:Row):Prop:=∀(fr:Fr) (rr:List Row) (mr:List Int) (aB:List (Nat×Nat)) (av m γ:Nat) (Q:KV),N9 n sv (.arm::rr) (-1::mr) aB av->rr.length+2*BS n<=89990->mr.length+2*BS n<=89990->m<mr.length->
 (∀new iT gE,qF n (2*BS n) ss aB av (.arm::rr) (-1::mr) new iT->Q (.d .none) (cS fr (er::(new++.arm::rr)) (eS (eS iT m (new++.arm::rr).length) mr.length (er::(new++.arm::rr)).length) aB 0 av gE []))->
 C gS [.b 4,.d (.list []),.d (.list ss),.d (.list []),.d (bV M0 er),.d (.int (Int.ofNat m))] (cS fr rr mr aB 0 av γ []) Q
theorem LZ(hG:iw C)(hD:LX C){ss:List D}{er:Row}(her:er=.bL\/er=.fw)(hS:uw n C sv ss):G0 (sv:=sv) n (Run C) ss er:=by
 intro fr rr mr aB av m γ Q hp hr hm Zg k;have pH:=i7 n;show gz (ex G C 60) ((P.code gS).take 4++(P.code gS).drop 4) [(af,.b 4),(gY,.d (.list [])),(bo,.d (.list ss)),(cV,.d (.list [])),(s_end,.d (bV M0 er)),(j0,.d (.int (Int.ofNat m)))] (cS fr rr mr aB 0 av γ []) (fQ Q);refine bq fun R hR=>?_;refine hD fr rr mr aB 0 av γ _ ?_;refine hG.new fr rr mr aB 0 av γ _ (ai hm) ?_;refine hR [(af,.b 4),(gY,.d (.list [])),(bo,.d (.list ss)),(cV,.d (.list [])),(s_end,.d (bV M0 er)),(j0,.d (.int (Int.ofNat m))),(dn,.d (.list [])),(iX,.d (.int (Int.ofNat mr.length))),(aN,.d (.int 0))] (cS fr rr (-1::mr) aB 0 av γ []) ?_;clear hR R;refine hG.lay .arm fr rr (-1::mr) aB 0 av γ _ (ai hr) fun h1 e1=>?_;have e1:h1=0:=by rw[e1];rfl
 subst e1;refine hS fr (.arm::rr) (-1::mr) aB av γ _ hp fun new iT oW SP hP=>?_;have hk:=hP.keep.1;have LW:=hP.len;have MF:=hP.jX;rw[List.length_cons]at hk MF;have hlen:(new++Row.arm::rr).length=rr.length+1+new.length:=by rw[List.length_append,List.length_cons];omega
 refine hG.put fr (new++.arm::rr) iT aB 0 av oW m 0 _ (jG hr LW (il hlen)) (aZ hm MF) (aZ Zg hk) ?_;refine hG.lay er fr (new++.arm::rr) (eS iT m (new++.arm::rr).length) aB 0 av oW _ (jG hr LW (il hlen)) fun h2 e2=>?_;have e2:h2=0:=by
  rw[e2];rcases her with rfl|rfl<;>rfl
 subst e2;refine hG.put fr (er::(new++.arm::rr)) (eS iT m (new++.arm::rr).length) aB 0 av oW mr.length 0 _ (by rw[List.length_cons];exact jG hr LW (il hlen)) (by rw[aE];exact aZ hm MF) (by rw[aE];exact ai hk) ?_;exact k new iT oW hP
theorem L1(hG:iw C){l:Int}{body:List D}(hH:G0 (sv:=sv) n C body .bL):uv (n+1) (Run C) sv (.block l body):=by
 intro fr rr mr aB av γ Q hp k;have pH:=i7 n;have hr:=hp.rl;have hm:=hp.ml;rw[dG]at hr hm;have CL:=hp.bl;have pV:=hp.al;show gz (ex G C 60) ((P.code hZ).take 1++(P.code hZ).drop 1) [(af,.b 4),(aD,.d (cy (.block l body)))] (cS fr rr mr aB 0 av γ []) (fQ Q);refine bq fun R hR=>?_;refine hR [(af,.b 4),(aD,.d (cy (.block l body))),(bH,.d (.str gk)),(ba,.d (.int l)),(j1,.d (.str aI)),(gY,.d (.list [])),(bo,.d (.list body)),(cV,.d (.list []))] (cS fr rr mr aB 0 av γ []) ?_;clear hR R;refine hG.lay .block fr rr mr aB 0 av γ _ (ai hr) fun h1 e1=>?_;have e1:h1=0:=by rw[e1];rfl
 subst e1;refine⟨by show 9<=100;decide,?_⟩;refine hG.new fr (.block::rr) mr aB 0 ((av+1:Nat):Int) γ _ (ai hm) ?_;refine hH fr (.block::rr) (-1::mr) aB (av+1) mr.length γ _ ⟨by simp only[List.length_cons];exact ai hr,by simp only[List.length_cons];exact ai hm,hp.sv,by exact ai CL,?_,by exact ai pV⟩ (by rw[List.length_cons];exact ai hr) (by rw[List.length_cons];exact ai hm) (by rw[List.length_cons];omega) fun new iT oW hP=>?_
 ·intro p rA;have:=hp.ac p rA;simp only[List.length_cons];exact⟨by exact ai this.1,by exact ai this.2⟩
 have LW:=hP.len;have MF:=hP.jX;have hk:=hP.keep.1;simp only[List.length_cons]at MF hk;refine⟨by show 9<=100;decide,?_⟩;have eb:(((av+1:Nat):Int)-Int.ofNat 1)=(av:Int):=by
  show((av+1:Nat):Int)-1=_;omega
 have e4:Row.bL::(new++Row.arm::Row.block::rr)=(.bL::(new++[.arm,.block]))++rr:=by simp
 have hlen:rr.length+(Row.bL::(new++[Row.arm,Row.block])).length=rr.length+2+new.length+1:=by
  simp only[List.length_cons,List.length_append,List.length_nil];omega
 have kk:=k (.bL::(new++[.arm,.block])) (eS (eS iT mr.length (new++.arm::.block::rr).length) (-1::mr).length (Row.bL::(new++Row.arm::Row.block::rr)).length) oW [] ⟨?_,?_,?_,⟨trivial,jx.app (b:=[.arm,.block]) (by rw[aE,aE];exact hP.FD) ⟨trivial,trivial,trivial⟩⟩,fun X M hX hF hM hE b hb=>?_⟩
 ·rw[<-e4]at kk;have kk2:Q (.d .none) (cS fr (Row.bL::(new++Row.arm::Row.block::rr)) (eS (eS iT mr.length (new++Row.arm::Row.block::rr).length) (-1::mr).length (Row.bL::(new++Row.arm::Row.block::rr)).length) aB 0 (((av+1:Nat):Int)-Int.ofNat 1) oW []):=by rw[eb];exact kk
  exact kk2
 ·rw[dG];simp only[List.length_cons,List.length_append,List.length_nil];exact aZ LW (DJ (6*BS n+200) (1))
 ·rw[dG,aE,aE];exact aZ MF (DJ (6*BS n+200) (1))
 ·refine iS.set (iS.set ⟨by exact ai hk,fun j hj=>?_⟩ _ (Nat.le_refl _) (ai hk)) _ (by rw[List.length_cons];omega) (by rw[aE,List.length_cons];exact ai hk);rw[hP.keep.2 j (by simp only[List.length_cons];exact ai hj),ju _ (by rw[List.length_cons];exact ai hj),ju _ hj]
 ·obtain⟨f1,f2⟩:=hF;have FI:=cw f1;have g1:=FI.1;have g2:=FI.2;clear FI;refine bc fun bf=>?_;obtain⟨⟨_,ga⟩,gb⟩:=g1;refine bf ?_;have hl:=eW hX f2;have l1:rr.length+(new++[Row.arm,Row.block]).length=rr.length+2+new.length:=by simp only[List.length_append,List.length_cons,List.length_nil];omega
  rw[l1]at f2 hl;rw[hlen]at hE⊢;have Zd:lN M (-1:: -1::mr).length iT:=by
   have h1:=oV (n':=mr.length+2) hM (by omega);have h2:=qG h1 (by rw[List.length_cons];omega) (by rw[aE];omega);have h3:lN M (mr.length+2) iT:=qG h2 (by omega) (by omega);exact h3
  have hEi:lJ M (tq aB (av+1)) (rr.length+2+new.length):=by
   intro m q he;cases IW:aB with
   |nil=>rw[IW]at he;cases he
   |cons p nT=>
    rw[IW]at he hE;simp only[tq]at he;refine bc fun bf=>?_;cases he;obtain⟨pp,e1,e2,e3⟩:=hE p.1 (av-p.2) rfl;refine bf ?_;exact⟨pp,e1,by exact ai e2,e3⟩
  refine bc fun bf=>?_;obtain⟨w,b',hw,ha⟩:=hP.good X M hX g2 Zd hEi ((b.tell te).tell AD) (by show b.told.length+1+1<=rr.length+1+1;exact ai hb);refine bf ?_;have LL:=ha.told (by simp only[List.length_cons];exact ai hl);have mV:bP X (rr.length+2) (.N []) ((b.tell te).tell AD)->bP X rr.length (.N []) b:=fun z=>by
   refine N1 hX ga hb ?_;exact Px hX gb (by show b.told.length+1<=rr.length+1;exact ai hb) z
  refine⟨w,N4 w b' jU,?_,?_⟩
  ·show fy _ (DL (n+1)-1) _ _ _ _;rw[VK];exact jY fun d hd=>N5 (jy (ai hd)) (aZ hb hl) (by omega) (hw.at_ (by unfold DL;exact ai hd))
  ·induction w using Way.casesOn with
   |done=>
    have h1:b'.told.length<=rr.length+1+1+new.length:=ha.1;exact⟨by show b'.told.length+1<=_;exact ai h1,fun z=>mV (ha.2 (wK hX f2 (by omega) z))⟩
   |left=>
    refine bc fun bf=>?_;obtain⟨m,q,p,he,Hf,h1,h2,h3⟩:=ha;refine bf ?_;cases IW:aB with
    |nil=>rw[IW]at he;cases he
    |cons p0 nT=>
     have hp0:=(hp.ac p0 (by rw[IW];exact List.mem_cons_self)).1;rw[IW]at he;simp only[tq]at he;rcases he with _|_;have eq:av+1-p0.2=(av-p0.2)+1:=by omega
     rw[eq]at h1 h3;exact⟨p0.1,av-p0.2,p,rfl,Hf,h1,h2,fun z=>mV (h3 z)⟩
   |gj=>exact⟨LL,fun z=>mV (ha.2 z)⟩
end
noncomputable def L2(X:PX)(M:Nat->Int)(D0 a a':Nat)(kL:Option (Nat×Nat))(x:D):Prop:=lJ M kL a'->∀b,b.told.length+1<=a->∃w b',fy X.pf D0 x b w b'/\After X M a a' kL (b.tell bF) w b'
noncomputable def AV(n N:Nat)(f:SF):=Piece (fun X M a a' kL=>L2 X M (DL n-1) a a' kL (cy f)) N
noncomputable def Og(n:Nat)(C:Cl)(sv:Bool)(fn:Nat)(f:SF):Prop:=∀(fr:Fr) (rr:List Row) (mr:List Int) (aB:List (Nat×Nat)) (av γ:Nat) (Q:KV),Pre n sv (rr.drop 1) mr aB av->
 (∀new gL gE τ,AV n (BS n-2) f aB av rr mr new gL->Q (.d .none) (cS fr (new++rr) gL aB 0 av gE τ))->C fn [.b 4,.d (cy f)] (cS fr rr mr aB 0 av γ []) Q
section
variable{C:Cl}{n:Nat}{sv:Bool}
noncomputable def PE:SF->Nat
 |.sel _ _ _=>dK
 |_=>dt
noncomputable def VL:SF->Prop
 |.rN _ _ _ _=>True
 |.pS _ _ _ _ _ _ _=>True
 |.sel _ a _=>a≠[]
 |_=>False
theorem tr(hG:iw C){f:SF}(hf:VL f)(hS:Og (n+1) C sv (PE f) f):uv (n+1) (Run C) sv f:=by
 intro fr rr mr aB av γ Q hp k;have pH:=i7 n;have hr:=hp.rl;rw[dG]at hr;have go:∀K:KV,(∀gE τ new gL,AV (n+1) (BS (n+1)-2) f aB av (.cP::rr) mr new gL->K (.d .none) (cS fr (new++.cP::rr) gL aB 0 av gE τ))->C (PE f) [.b 4,.d (cy f)] (cS fr (.cP::rr) mr aB 0 av γ []) K:=
  fun K hK=>hS fr (.cP::rr) mr aB av γ K hp fun new gL gE τ hP=>hK gE τ new gL hP
 have fin:∀gE τ new gL,AV (n+1) (BS (n+1)-2) f aB av (.cP::rr) mr new gL->Q (.d .none) (cS fr (new++.cP::rr) gL aB 0 av gE τ):=by
  intro gE τ new gL hP;have LW:=hP.len;have MF:=hP.jX;rw[dG]at LW MF;have kk:=k (new++[.cP]) gL gE τ ⟨by rw[List.length_append,dG,List.length_singleton];omega,by rw[dG];omega,hP.keep,hP.FD.app (b:=[.cP]) ⟨trivial,trivial⟩,fun X M hX hF hM hE b hb=>?_⟩
  ·rw[List.append_assoc]at kk;exact kk
  ·obtain⟨g1,g2⟩:=cw hF;have e1:rr.length+(new++[Row.cP]).length=(Row.cP::rr).length+new.length:=by simp only[List.length_append,List.length_cons,List.length_nil];omega
   rw[e1]at hE⊢;obtain⟨w,b',h1,h2⟩:=hP.good X M hX g2 hM hE b (by rw[List.length_cons];exact ai hb);exact⟨w,b',h1,h2.pre fun z=>wJ hX g1.2 hb z⟩
 induction f using SF.casesOn with
 |rN l c b o=>
  refine hG.lay .cP fr rr mr aB 0 av γ _ (ai hr) fun h1 e1=>?_;have e1:h1=0:=by rw[e1];rfl
  subst e1;refine go _ fun gE τ new gL hP=>?_;exact fin gE [] new gL hP
 |pS l c b l' t u o=>
  refine hG.lay .cP fr rr mr aB 0 av γ _ (ai hr) fun h1 e1=>?_;have e1:h1=0:=by rw[e1];rfl
  subst e1;refine go _ fun gE τ new gL hP=>?_;exact fin gE [] new gL hP
 |sel l a o=>
  obtain⟨a0,a',rfl⟩:∃a0 a',a=a0::a':=by
   induction a using List.casesOn with
   |nil=>exact absurd rfl hf
   |cons a0 a'=>exact⟨a0,a',rfl⟩
  rcases a0 with _|_
  all_goals
   refine hG.lay .cP fr rr mr aB 0 av γ _ (ai hr) fun h1 e1=>?_;have e1:h1=0:=by rw[e1];rfl
   subst e1;refine go _ fun gE τ new gL hP=>?_;exact fin gE [] new gL hP
 |_=>exact hf.elim
theorem Oh{X:PX}{M:Nat->Int}(hX:nN X){f:SF}{c:eR}{how:Option Bool}{ahead:List Str}{body other:List D}{kL:Option (Nat×Nat)}{n2 a pl p1 p2 o out:Nat}(hc:gq c)(Ru:∀s∈ahead,kn s)(pV:ahead.length=CV how)
  (w7:∀b,bP X (a+pl) (.N ahead.reverse) b->bP X a (.N []) b) (fc:gH X.pf.R M (a+pl) (aw c))
  (ft:idx X.pf.R (Int.ofNat (a+pl+(aw c).length))=some (bV M (.bu (cE c.ent) (bA c.aP) c.args.length how o)))
  (fj:idx X.pf.R (Int.ofNat p1)=some (bV M (.gJ out))) (ho:M o=Int.ofNat (p1+1)) (ux:M out=Int.ofNat p2) (h1:a+pl+(aw c).length+1<=p1) (h2:p1+1<=p2)
  (gb:GU X M (DL n) (a+pl+(aw c).length+1) p1 kL body) (go:GU X M (DL n2) (p1+1) p2 kL other)
  (hw:∀b w b',b.told.length<=90000->(iA X.pf.gG (cU b how ahead c).asked (Int.ofNat 2)=Int.ofNat 0->WalkL X.pf (DL n2) other (cU b how ahead c) w b')->(¬iA X.pf.gG (cU b how ahead c).asked (Int.ofNat 2)=Int.ofNat 0->WalkL X.pf (DL n) body (cU b how ahead c) w b')->fy X.pf (DL (n+1)-1) (cy f) b w b'):
  L2 X M (DL (n+1)-1) a p2 kL (cy f):=by
 intro hE b hb;have hl:=eW hX ft;have Zh:=eW hX fj;have LL:(bO (b.tell bF) c.args).told.length<=a+pl+(aw c).length:=by
  have h3:=tY c.args (a:=a+pl) (b:=b.tell bF) (by show b.told.length+1<=_;exact ai hb);unfold aw;refine az (List.length_append) ?_;exact ai h3
 have htt:(cU b how ahead c).told.length<=a+pl+(aw c).length+1:=by
  show(bO (b.tell bF) c.args).told.length+1<=_;exact ai LL
 have Zi:ahead.reverse.length<=50:=by
  refine az (List.length_reverse) ?_;refine az (pV) ?_;rcases how with _|_<;>simp[CV]
 have mV:(iA X.pf.gG (cU b how ahead c).asked (Int.ofNat 2)=Int.ofNat 0->bP X (p1+1) (.N []) (cU b how ahead c))->(¬iA X.pf.gG (cU b how ahead c).asked (Int.ofNat 2)=Int.ofNat 0->bP X (a+pl+(aw c).length+1) (.N []) (cU b how ahead c))->bP X a (.N []) (b.tell bF):=fun z0 z1=>by
  refine w7 _ ?_;refine LB hX hc Zi fc (by show b.told.length+1<=_;exact ai hb) ?_;rw[List.reverse_reverse];exact IT hX hc Ru pV ft ho (ai h1) LL z0 z1
 by_cases hz:iA X.pf.gG (cU b how ahead c).asked (Int.ofNat 2)=Int.ofNat 0
 ·obtain⟨w,b',w1,a1⟩:=go hE (cU b how ahead c) (aZ h1 htt);exact⟨w,b',hw b w b' (aZ hb hl) (fun _=>w1) (fun z=>absurd hz z),a1.pre fun z=>mV (fun _=>z) (fun q=>absurd hz q)⟩
 ·have PG:lJ M kL p1:=fun m q he=>by
   refine bc fun bf=>?_;obtain⟨p,e1,e2,e3⟩:=hE m q he;refine bf ?_;exact⟨p,e1,by exact aZ h2 e2,e3⟩
  refine bc fun bf=>?_;obtain⟨w,b',w1,a1⟩:=gb PG (cU b how ahead c) htt;refine bf ?_;refine⟨w,b',hw b w b' (aZ hb hl) (fun z=>absurd z hz) (fun _=>w1),?_⟩;have a2:After X M (a+pl+(aw c).length+1) p2 kL (cU b how ahead c) w b':=a1.post fun _ ht=>⟨by exact aZ h2 ht,fun z=>wL hX fj ux (ai h2) z⟩;exact a2.pre fun z=>mV (fun q=>absurd q hz) (fun _=>z)
theorem yU{f:SF}{c:eR}{how:Option Bool}{ahead:List Str}{body other:List D}{n2:Nat}(A9:n2<=n){aB:List (Nat×Nat)}{av:Nat}{rr:List Row}{mr:List Int}{pre eJ eK:List Row}{iT uz:List Int}(hc:gq c)(Ru:∀s∈ahead,kn s)(pV:ahead.length=CV how)(Oi:pre.length<=1)
  (hpm:∀n,jx n pre) (w7:∀(X:PX) (M:Nat->Int) (a:Nat) (b:Bk),nN X->gH X.pf.R M a pre->bP X (a+pre.length) (.N ahead.reverse) b->bP X a (.N []) b)
  (P1:qF n (2*BS n) body aB av (.bu (cE c.ent) (bA c.aP) c.args.length how mr.length::(aw c++(pre++rr))) (-1:: -1::mr) eJ iT)
  (P2:qF n2 (2*BS n2) other aB av (.gJ (mr.length+1)::(eJ++.bu (cE c.ent) (bA c.aP) c.args.length how mr.length::(aw c++(pre++rr)))) (eS iT mr.length (Row.gJ (mr.length+1)::(eJ++.bu (cE c.ent) (bA c.aP) c.args.length how mr.length::(aw c++(pre++rr)))).length) eK uz)
  (hw:∀(X:PX),nN X->∀b w b',b.told.length<=90000->(iA X.pf.gG (cU b how ahead c).asked (Int.ofNat 2)=Int.ofNat 0->WalkL X.pf (DL n2) other (cU b how ahead c) w b')->(¬iA X.pf.gG (cU b how ahead c).asked (Int.ofNat 2)=Int.ofNat 0->WalkL X.pf (DL n) body (cU b how ahead c) w b')->fy X.pf (DL (n+1)-1) (cy f) b w b'):
  AV (n+1) (BS (n+1)-2) f aB av rr mr ((eK++[.gJ (mr.length+1)])++((eJ++[.bu (cE c.ent) (bA c.aP) c.args.length how mr.length])++(aw c++pre))) (eS uz (mr.length+1) (eK++.gJ (mr.length+1)::(eJ++.bu (cE c.ent) (bA c.aP) c.args.length how mr.length::(aw c++(pre++rr)))).length):=by
 have pH:=i7 n;have w8:=GZ A9;have l1:=P1.len;have l2:=P2.len;have m1:=P1.jX;have m2:=P2.jX;have k1:=P1.keep;have k2:=P2.keep;have G1:=k1.1;have Oj:=k2.1;rw[aE]at m2 Oj;simp only[List.length_cons]at m1 G1;have s6:(aw c).length<=8:=by
  have ha:=km c.args;have h2:=hc.args.1;have hf:=gu c.aP;have nV:=cT c.aP;unfold aw;rw[List.length_append,List.length_append];simp only[List.length_singleton];exact uB ha (qe 3 h2) (il hf) nV
 have q1:rr.length+(eK++[Row.gJ (mr.length+1)]++(eJ++[Row.bu (cE c.ent) (bA c.aP) c.args.length how mr.length]++(aw c++pre))).length=rr.length+pre.length+(aw c).length+1+eJ.length+1+eK.length:=by
  simp only[List.length_append,List.length_cons,List.length_nil];omega
 have q2:(eK++Row.gJ (mr.length+1)::(eJ++Row.bu (cE c.ent) (bA c.aP) c.args.length how mr.length::(aw c++(pre++rr)))).length=rr.length+pre.length+(aw c).length+1+eJ.length+1+eK.length:=by
  simp only[List.length_append,List.length_cons];omega
 have q3:(Row.gJ (mr.length+1)::(eJ++Row.bu (cE c.ent) (bA c.aP) c.args.length how mr.length::(aw c++(pre++rr)))).length=rr.length+pre.length+(aw c).length+1+eJ.length+1:=by
  simp only[List.length_append,List.length_cons];omega
 have q4:(Row.bu (cE c.ent) (bA c.aP) c.args.length how mr.length::(aw c++(pre++rr))).length=rr.length+pre.length+(aw c).length+1:=by
  simp only[List.length_append,List.length_cons];omega
 refine⟨?_,?_,?_,by
  rw[aE];exact((P2.FD.app (b:=[.gJ (mr.length+1)]) ⟨by show mr.length+1<uz.length;exact aZ G1 Oj,trivial⟩).app (((P1.FD.mono (by omega)).app (b:=[.bu (cE c.ent) (bA c.aP) c.args.length how mr.length]) ⟨by show mr.length<uz.length;exact aZ G1 Oj,trivial⟩).app ((GV _ _).app (hpm _)))),fun X M hX hF hM=>?_⟩
 ·rw[dG];simp only[List.length_append,List.length_cons,List.length_nil];omega
 ·rw[aE,dG];exact uB (qe 2 w8) m1 m2 (DJ (6*BS n+200) (2))
 ·refine iS.set ⟨by exact aZ G1 Oj,fun j hj=>?_⟩ _ (by omega) (aZ G1 Oj);rw[k2.2 j (by rw[aE];exact aZ G1 hj),dH _ (ai G1) (aZ G1 hj),if_neg (by exact Nat.ne_of_gt (ai hj)),k1.2 j (by simp only[List.length_cons];exact ai hj),ju _ (by rw[List.length_cons];exact ai hj),ju _ hj]
 ·obtain⟨fA,fB⟩:=cw hF;refine bc fun bf=>?_;obtain⟨fC,fD⟩:=cw fA;obtain⟨fE,fG⟩:=cw fC;obtain⟨fH,fI⟩:=cw fD;obtain⟨fJ,fK⟩:=cw fB;refine bf ?_;have e1:rr.length+(aw c++pre).length=rr.length+pre.length+(aw c).length:=by rw[List.length_append];omega
  have e2:rr.length+(eJ++[Row.bu (cE c.ent) (bA c.aP) c.args.length how mr.length]++(aw c++pre)).length=rr.length+pre.length+(aw c).length+1+eJ.length:=by
   simp only[List.length_append,List.length_cons,List.length_nil];omega
  rw[e1]at fH fI;rw[e2]at fJ fK;have fK':gH X.pf.R M (rr.length+pre.length+(aw c).length+1+eJ.length+1) eK:=fK;have fI':gH X.pf.R M (rr.length+pre.length+(aw c).length+1) eJ:=fI;have Zh:=eW hX fJ.2;have Zh:rr.length+pre.length+(aw c).length+1+eJ.length<90000:=Zh;have ho:M mr.length=Int.ofNat (rr.length+pre.length+(aw c).length+1+eJ.length+1):=by
   have h:=hM mr.length (Nat.le_refl _) (by rw[aE];exact aZ G1 Oj);rw[dH _ (aZ G1 Oj) (aZ G1 Oj),if_neg (by exact Nat.ne_of_gt (by omega)),k2.2 mr.length (by rw[aE];exact ai G1),dH _ (ai G1) (by omega),if_pos rfl,q3]at h;exact h.symm
  have ux:M (mr.length+1)=Int.ofNat (rr.length+pre.length+(aw c).length+1+eJ.length+1+eK.length):=by
   have:=LV hM (Nat.le_succ _) (by omega);rw[this,q2];rfl
  have VM:lN M (mr.length+2) uz:=qG (oV hM (by omega)) (by omega) (aZ G1 Oj);have hM2:lN M (mr.length+2) iT:=by
   have h3:=uQ k2 VM;exact qG h3 (by omega) (by omega)
  have g1:=P1.good X M hX (by rw[q4];exact fI') hM2;have g2:=P2.good X M hX (by rw[q3];exact fK') (oV VM (by rw[aE];omega));rw[q4]at g1;rw[q3]at g2;refine az (q1) ?_;exact Oh (pl:=pre.length) (p1:=rr.length+pre.length+(aw c).length+1+eJ.length) (o:=mr.length) (out:=mr.length+1) hX hc Ru pV (fun b=>w7 X M rr.length b hX fE) fG fH.2 fJ.2 ho ux (by omega) (by omega) g1 g2 (hw X hX)
end
section
variable{C:Cl}{n:Nat}{sv:Bool}
theorem uR{n2:Nat}(A9:n2<=n){rr L3:List Row}{mr gL:List Int}{aB:List (Nat×Nat)}{av:Nat}(hp:Pre (n+1) sv rr mr aB av)(hr:L3.length<=rr.length+3*BS n+150)(hm:gL.length<=mr.length+3*BS n+150)(Zg:mr.length<=gL.length):N9 n2 sv L3 gL aB av:=by
 have pH:=i7 n;have w8:=GZ A9;have h1:rr.length+12*BS n<=89600:=by have:=hp.rl;rw[dG]at this;exact ai this
 have h2:mr.length+12*BS n<=89600:=by have:=hp.ml;rw[dG]at this;exact ai this
 have h3:=hp.bl;have h4:=hp.al;refine⟨by exact jG hr (qe 4 w8) h1,by exact jG hm (qe 4 w8) h2,hp.sv,by exact aZ A9 h3,fun p rA=>?_,by exact aZ A9 h4⟩;have:=hp.ac p rA;exact⟨this.1,by exact aZ Zg this.2⟩
theorem Ol(hG:iw C){l:Int}{c:eR}{body o:List D}(hc:gq c)(hB:uw n C sv body)(hO:uw n C sv o):Og (n+1) (Run C) sv dt (.rN l c body o):=by
 intro fr rr mr aB av γ Q hp k;have pH:=i7 n;have hr:rr.length+12*BS n<=89601:=by have:=Zb hp.rl;rw[dG]at this;exact ai this
 have hm:mr.length+12*BS n<=89600:=by have:=hp.ml;rw[dG]at this;exact ai this
 have RR:rr.length<=89409:=by exact aZ (qe 12 pH) hr
 have W0:mr.length<=89408:=by exact aZ (qe 12 pH) hm
 have s6:(aw c).length<=8:=by
  have ha:=km c.args;have h2:=hc.args.1;have hf:=gu c.aP;have nV:=cT c.aP;unfold aw;refine az (List.length_append) ?_;refine az (List.length_append) ?_;simp only[List.length_singleton];exact uB ha (qe 3 h2) (il hf) nV
 show gz (ex G C 60) ((P.code dt).take 2++(P.code dt).drop 2) [(af,.b 4),(aD,.d (cy (.rN l c body o)))] (cS fr rr mr aB 0 av γ []) (fQ Q);refine bq fun R hR=>?_;refine hG.new fr rr mr aB 0 av γ _ (by omega) ?_;refine hG.new fr rr (-1::mr) aB 0 av γ _ (by rw[List.length_cons];exact ai hm) ?_;refine hR [(af,.b 4),(aD,.d (cy (.rN l c body o))),(bH,.d (.str bB)),(ba,.d (.int l)),(aC,.d (.list [.tuple [.none,.str s_call,j6 l c,.list body]])),(dp,.d (.list o)),(iX,.d (.int (Int.ofNat (mr.length+1)))),(dA,.d (.int (Int.ofNat mr.length)))] (cS fr rr (-1:: -1::mr) aB 0 av γ []) ?_;clear hR R;refine hG.wY l c fr rr (-1:: -1::mr) aB 0 av γ _ hc.args.1 (by omega) fun h1 e1=>?_;refine hG.lay (.bu (cE c.ent) (bA c.aP) c.args.length none mr.length) fr (aw c++rr) (-1:: -1::mr) aB h1 av γ _ (by rw[List.length_append];exact aZ RR s6) fun h2 e2=>?_;have e0:h2=0:=by
  refine az (e2) ?_;refine az (e1) ?_;simp only[Bb];omega
 subst e0;refine hB fr (.bu (cE c.ent) (bA c.aP) c.args.length none mr.length::(aw c++rr)) (-1:: -1::mr) aB av γ _ (uR (Nat.le_refl n) hp (WX (by rw[List.length_cons,List.length_append];exact ai s6)) (by simp only[List.length_cons];omega) (by simp only[List.length_cons];omega)) fun eJ iT oW SP P1=>?_;have l1:=P1.len;have m1:=P1.jX;have k1:=P1.keep.1;simp only[List.length_cons]at m1 k1;have yL:(eJ++Row.bu (cE c.ent) (bA c.aP) c.args.length none mr.length::(aw c++rr)).length=rr.length+(aw c).length+1+eJ.length:=by
  simp only[List.length_append,List.length_cons];omega
 refine hG.lay (.gJ (mr.length+1)) fr (eJ++Row.bu (cE c.ent) (bA c.aP) c.args.length none mr.length::(aw c++rr)) iT aB 0 av oW _ (uB hr s6 l1 (il yL)) fun h3 e3=>?_;have e3:h3=0:=by rw[e3];rfl
 subst e3;refine hG.put fr (.gJ (mr.length+1)::(eJ++Row.bu (cE c.ent) (bA c.aP) c.args.length none mr.length::(aw c++rr))) iT aB 0 av oW mr.length 0 _ (by rw[List.length_cons];exact uB hr s6 l1 (il yL)) (aZ hm m1) (ai k1) ?_;refine hO fr (.gJ (mr.length+1)::(eJ++Row.bu (cE c.ent) (bA c.aP) c.args.length none mr.length::(aw c++rr))) (eS iT mr.length (Row.gJ (mr.length+1)::(eJ++Row.bu (cE c.ent) (bA c.aP) c.args.length none mr.length::(aw c++rr))).length) aB av oW _ (uR (Nat.le_refl n) hp (WX (by rw[List.length_cons,yL];exact aZ s6 l1)) (by rw[aE];exact ai m1) (by rw[aE];exact ai k1)) fun eK uz MG τ4 P2=>?_;have l2:=P2.len;have m2:=P2.jX;have k2:=P2.keep.1;rw[aE]at m2 k2;refine hG.put fr (eK++.gJ (mr.length+1)::(eJ++Row.bu (cE c.ent) (bA c.aP) c.args.length none mr.length::(aw c++rr))) uz aB 0 av MG (mr.length+1) 0 _ (by rw[List.length_append,List.length_cons,yL];exact uB hr s6 l1 l2) (jG hm m1 m2) (aZ k1 k2) ?_;have hP:=yU (f:=.rN l c body o) (Nat.le_refl n) (pre:=[]) (ahead:=[]) hc (fun s hs=>by rcases hs with _|_) rfl (Nat.zero_le _) (fun _=>trivial) (fun X M a b _ _ z=>z) P1 P2 (fun X hX b w b' hb w0 w1=>by
  rw[VK];exact jY fun d hd=>by
   induction d using Nat.casesAuxOn with
   |zero=>omega
   |succ d=>exact nG rfl (RC (jy (ai hd)) (AP (ai hd)) (AQ (ai hd)) hc (by omega) hX.gG (fun z=>(w0 z).at_ (by unfold DL;exact ai hd)) (fun z=>(w1 z).at_ (by unfold DL;exact ai hd))))
 have kk:=k _ _ MG [] hP;simp only[List.append_assoc,List.cons_append,List.nil_append,List.append_nil]at kk⊢;exact kk
theorem Om(hG:iw C){l l':Int}{c:eR}{t:Th}{u:Bool}{body o:List D}{n2:Nat}(A9:n2<=n)(hc:gq c)(ht:gI t)(hB:uw n C sv body)(hO:uw n2 C sv o):Og (n+1) (Run C) sv dt (.pS l c body l' t u o):=by
 intro fr rr mr aB av γ Q hp k;have pH:=i7 n;have hr:rr.length+12*BS n<=89601:=by have:=Zb hp.rl;rw[dG]at this;exact ai this
 have hm:mr.length+12*BS n<=89600:=by have:=hp.ml;rw[dG]at this;exact ai this
 have RR:rr.length<=89409:=by exact aZ (qe 12 pH) hr
 have W0:mr.length<=89408:=by exact aZ (qe 12 pH) hm
 have w8:=GZ A9;have s6:(aw c).length<=8:=by
  have ha:=km c.args;have h2:=hc.args.1;have hf:=gu c.aP;have nV:=cT c.aP;unfold aw;refine az (List.length_append) ?_;refine az (List.length_append) ?_;simp only[List.length_singleton];omega
 show gz (ex G C 60) ((P.code dt).take 2++(P.code dt).drop 2) [(af,.b 4),(aD,.d (cy (.pS l c body l' t u o)))] (cS fr rr mr aB 0 av γ []) (fQ Q);refine bq fun R hR=>?_;refine hG.new fr rr mr aB 0 av γ _ (by omega) ?_;refine hG.new fr rr (-1::mr) aB 0 av γ _ (by rw[List.length_cons];exact ai hm) ?_;refine hR [(af,.b 4),(aD,.d (cy (.pS l c body l' t u o))),(bH,.d (.str bB)),(ba,.d (.int l)),(aC,.d (.list [.tuple [.none,.str s_call,j6 l c,.list body],.tuple [.none,.str bE,jr l' t u,.list o]])),(dp,.d .none),(iX,.d (.int (Int.ofNat (mr.length+1)))),(dA,.d (.int (Int.ofNat mr.length)))] (cS fr rr (-1:: -1::mr) aB 0 av γ []) ?_;clear hR R;show gz (ex G C 60) (((P.code dt).drop 2).take 2++(P.code dt).drop 4) [(af,.b 4),(aD,.d (cy (.pS l c body l' t u o))),(bH,.d (.str bB)),(ba,.d (.int l)),(aC,.d (.list [.tuple [.none,.str s_call,j6 l c,.list body],.tuple [.none,.str bE,jr l' t u,.list o]])),(dp,.d .none),(iX,.d (.int (Int.ofNat (mr.length+1)))),(dA,.d (.int (Int.ofNat mr.length)))] (cS fr rr (-1:: -1::mr) aB 0 av γ []) (fQ Q);refine bq fun R hR=>?_;have fin:∀h1:Int,h1=0+1->R [(af,.b 4),(aD,.d (cy (.pS l c body l' t u o))),(bH,.d (.str bB)),(ba,.d (.int l)),(aC,.d (.list [.tuple [.none,.str s_call,j6 l c,.list body],.tuple [.none,.str bE,jr l' t u,.list o]])),(dp,.d .none),(iX,.d (.int (Int.ofNat (mr.length+1)))),(dA,.d (.int (Int.ofNat mr.length))),(qX,.d (.str (qE (some u)))),(jN,.d (jr l' t u))] (cS fr (dD t::rr) (-1:: -1::mr) aB h1 av γ []):=by
  intro h0 e0;refine hR _ _ ?_;clear hR R;refine hG.wY l c fr (dD t::rr) (-1:: -1::mr) aB h0 av γ _ hc.args.1 (by rw[List.length_cons];exact ai hr) fun h1 e1=>?_;refine hG.lay (.bu (cE c.ent) (bA c.aP) c.args.length (some u) mr.length) fr (aw c++dD t::rr) (-1:: -1::mr) aB h1 av γ _ (by rw[List.length_append,List.length_cons];exact aZ RR s6) fun h2 e2=>?_;have ez:h2=0:=by
   refine az (e2) ?_;refine az (e1) ?_;refine az (e0) ?_;simp only[Bb];omega
  subst ez;refine hB fr (.bu (cE c.ent) (bA c.aP) c.args.length (some u) mr.length::(aw c++dD t::rr)) (-1:: -1::mr) aB av γ _ (uR (Nat.le_refl n) hp (WX (by rw[List.length_cons,List.length_append,List.length_cons];exact ai s6)) (by simp only[List.length_cons];omega) (by simp only[List.length_cons];omega)) fun eJ iT oW SP P1=>?_;have l1:=P1.len;have m1:=P1.jX;have k1:=P1.keep.1;simp only[List.length_cons]at m1 k1;have yL:(eJ++Row.bu (cE c.ent) (bA c.aP) c.args.length (some u) mr.length::(aw c++dD t::rr)).length=rr.length+1+(aw c).length+1+eJ.length:=by
   simp only[List.length_append,List.length_cons];omega
  refine hG.lay (.gJ (mr.length+1)) fr (eJ++Row.bu (cE c.ent) (bA c.aP) c.args.length (some u) mr.length::(aw c++dD t::rr)) iT aB 0 av oW _ (uB hr s6 l1 (il yL)) fun h3 e3=>?_;have e3:h3=0:=by rw[e3];rfl
  subst e3;refine hG.put fr (.gJ (mr.length+1)::(eJ++Row.bu (cE c.ent) (bA c.aP) c.args.length (some u) mr.length::(aw c++dD t::rr))) iT aB 0 av oW mr.length 0 _ (by rw[List.length_cons];exact uB hr s6 l1 (il yL)) (aZ hm m1) (ai k1) ?_;refine hO fr (.gJ (mr.length+1)::(eJ++Row.bu (cE c.ent) (bA c.aP) c.args.length (some u) mr.length::(aw c++dD t::rr))) (eS iT mr.length (Row.gJ (mr.length+1)::(eJ++Row.bu (cE c.ent) (bA c.aP) c.args.length (some u) mr.length::(aw c++dD t::rr))).length) aB av oW _ (uR A9 hp (WX (by rw[List.length_cons,yL];exact aZ s6 l1)) (by rw[aE];exact ai m1) (by rw[aE];exact ai k1)) fun eK uz MG τ4 P2=>?_;have l2:=P2.len;have m2:=P2.jX;have k2:=P2.keep.1;rw[aE]at m2 k2;refine hG.put fr (eK++.gJ (mr.length+1)::(eJ++Row.bu (cE c.ent) (bA c.aP) c.args.length (some u) mr.length::(aw c++dD t::rr))) uz aB 0 av MG (mr.length+1) 0 _ (by rw[List.length_append,List.length_cons,yL];exact Z2 hr (qe 2 w8) s6 l1 l2) (uB hm (qe 2 w8) m1 m2) (aZ k1 k2) ?_;have hP:=yU (f:=.pS l c body l' t u o) A9 (pre:=[dD t]) (ahead:=[bD t]) (how:=some u) hc (fun s hs=>by rw[List.mem_singleton]at hs;exact hs▸ek ht) rfl (by simp) (fun _=>⟨se _ _,trivial⟩) (fun X M a b hX hF z=>C3 hX ht (by decide) hF.2 z) P1 P2 (fun X hX b w b' hb w0 w1=>by
   rw[VK];exact jY fun d hd=>by
    induction d using Nat.casesAuxOn with
    |zero=>omega
    |succ d=>exact nG rfl (RD (jy (ai hd)) (mn (by omega)) (AP (by omega)) (AQ (ai hd)) hc ht (by omega) hX.gG (fun z=>(w0 z).at_ (by unfold DL;exact aZ (qe 10 A9) hd)) (fun z=>(w1 z).at_ (by unfold DL;exact ai hd))))
  have kk:=k _ _ MG [] hP;simp only[List.append_assoc,List.cons_append,List.nil_append,List.append_nil]at kk⊢;exact kk
 rcases u with _|_
 all_goals
  refine hG.val t fr rr (-1:: -1::mr) aB 0 av γ _ (by omega) fun h1 e1=>?_;exact fin h1 e1
end
noncomputable def cH(g:Option Bool)(m:Nat):List Row:=match g with
 |none=>[]
 |some g=>[.j7 m,.const (match g with|false=>.ofNat 0|true=>.ofNat 1)]
noncomputable def gy(i:Nat):cR->List Row
 |.acc _ _ e aP _ _ _=>.iP i (cE e) (bA aP)::cg aP
 |.dr _ _ t u _=>[.jT i u,dD t]
 |.term _ _=>[.pD i]
noncomputable def cA(i m:Nat)(a:cR):List Row:=gy i a++cH (jF a) m
theorem t7(i m:Nat)(a:cR):(cA i m a).length<=4:=by
 unfold cA;refine az (List.length_append) ?_;have h1:(gy i a).length<=2:=by
  induction a using cR.casesOn with
  |acc g l e aP fm body r=>rcases aP with _|_<;>simp[gy,cg]
  |dr g l t u r=>simp[gy]
  |term g r=>simp[gy]
 have h2:(cH (jF a) m).length<=2:=by
  cases jF a<;>simp[cH]
 exact aZ h1 h2
theorem Zj(g:Bool):gI (.lit (match g with|false=>.ofNat 0|true=>.ofNat 1)):=by
 intro j e;rcases g with _|_<;>rcases e with _|_<;>decide
section
variable{X:PX}{M:Nat->Int}{b:Bk}
theorem VN(hX:nN X){a0:cR}{i m a:Nat}{ol:List D}(hl:iL a0)(hi:i<=50)(DE:ol.length<=50)(hf:gH X.pf.R M a (cA i m a0))(hm:M m=Int.ofNat (a+(cA i m a0).length))
  (k:bP X (a+(cA i m a0).length) (.O [] (fx i a0 ol)) b):bP X a (.O [] ol) b:=by
 obtain⟨f1,f2⟩:=cw hf;have opened:bP X (a+(cH (jF a0) m).length+(gy i a0).length) (.O [] (lF i (nH a0)::ol)) b->bP X (a+(cH (jF a0) m).length) (.O [] ol) b:=fun z=>by
  generalize a+(cH (jF a0) m).length=a1 at f2 z⊢
  induction a0 using cR.casesOn with
  |acc g l e aP fm body r=>
   induction aP using Option.casesOn with
   |none=>exact aX hX f2.2 (by decide) (Nat.lt_succ_self _) (lU (.inl rfl) (Vu (AH e ⟨0,by decide⟩) (by omega))) (.inl ⟨rfl,rfl⟩) z
   |some t=>
    have to:=hl t rfl;refine Lz hX to f2.1.2 ?_;exact aX hX f2.2 (by decide) (Nat.lt_succ_self _) (lU (.inl rfl) (Vv (ek to).2 (AH e ⟨1,by decide⟩) (by omega))) (.inl ⟨rfl,rfl⟩) z
  |dr g l t u r=>
   refine Lz hX hl f2.1.2 ?_;exact aX hX f2.2 (by decide) (Nat.lt_succ_self _) (lU (.inr (.inl rfl)) (Rq (ek hl).2 (AE u) (by omega))) (.inl ⟨rfl,rfl⟩) z
  |term g r=>exact aX hX f2.2 (by decide) (Nat.lt_succ_self _) (lU (.inr (.inr rfl)) (Za (by omega))) (.inl ⟨rfl,rfl⟩) z
 have e:a+(cA i m a0).length=a+(cH (jF a0) m).length+(gy i a0).length:=by
  unfold cA;rw[List.length_append];omega
 rw[e]at k hm;have ho:j8 a0=match jF a0 with|some false=>false|_=>true:=rfl
 unfold fx at k;rw[ho]at k;generalize jF a0=g0 at f1 opened hm k;have acO:0<(gy i a0).length:=by rcases a0 with _|_<;>simp[gy]
 induction g0 using Option.casesOn with
 |none=>exact opened k
 |some g=>
  obtain⟨⟨_,h1⟩,h2⟩:=f1;refine Lz hX (Zj g) h1 ?_;rcases g with _|_
  ·have hd:=tV (C:=Run X.C2) (pf:=X.pf) (m:=M m) (g:=false) (ol:=ol) (b:=b);exact aX hX h2 (by decide) (by show a+1<_;have:(cH (some false) m).length=2:=rfl;exact ai (xq this)) hd (.inr (by rw[hm])) k
  ·have hd:=tV (C:=Run X.C2) (pf:=X.pf) (m:=M m) (g:=true) (ol:=ol) (b:=b);exact aX hX h2 (by decide) (Nat.lt_succ_self _) hd (.inl ⟨rfl,rfl⟩) (opened k)
theorem RS{i m n:Nat}(h:m<n)(a:cR):jx n (cA i m a):=by
 refine jx.app ?_ ?_
 ·induction a using cR.casesOn with
  |acc g l e aP fm body r=>exact⟨trivial,AK _ _⟩
  |dr g l t u r=>exact⟨trivial,se _ _,trivial⟩
  |term g r=>exact⟨trivial,trivial⟩
 ·cases jF a with
  |none=>trivial
  |some g=>exact⟨h,trivial,trivial⟩
noncomputable def et:Nat->Nat->List cR->List Row
 |_,_,[]=>[]
 |i,m,a::as=>et (i+1) (m+1) as++cA i m a
noncomputable def nJ:Nat->Nat->List Int->List cR->List Int
 |_,_,mr,[]=>mr
 |i,p,mr,a::as=>nJ (i+1) (p+(cA i mr.length a).length) (eS (-1::mr) mr.length ((p+(cA i mr.length a).length:Nat):Int)) as
theorem AW:∀(as:List cR) (i m:Nat),(et i m as).length<=4*as.length:=by
 intro l0
 induction l0 with
 |nil=>
  intro _ _;exact Nat.le_refl _
 |cons a as ih=>
  intro i m;have h1:=ih (i+1) (m+1);have h2:=t7 i m a;unfold et;rw[List.length_append,List.length_cons];exact aZ h1 h2
theorem Oo{n:Nat}:∀(as:List cR) (i m:Nat),m+as.length<=n->jx n (et i m as):=by
 intro l0
 induction l0 with
 |nil=>
  intro _ _ _;exact trivial
 |cons a as ih=>
  intro i m h;rw[List.length_cons]at h;exact(ih (i+1) (m+1) (ai h)).app (RS (ai h) a)
theorem FO:∀(as:List cR) (i p:Nat) (mr:List Int),(nJ i p mr as).length=mr.length+as.length:=by
 intro l0
 induction l0 with
 |nil=>
  intro _ _ _;exact rfl
 |cons a as ih=>
  intro i p mr;unfold nJ;rw[ih,aE,List.length_cons,List.length_cons];omega
theorem t8:∀(as:List cR) (i p:Nat) (mr:List Int),iS mr (nJ i p mr as):=by
 intro l0
 induction l0 with
 |nil=>
  intro _ _ _;exact iS.refl _
 |cons a as ih=>
  intro i p mr;unfold nJ;exact iS.trans ((iS.new mr (-1)).set _ (Nat.le_refl _) (Nat.lt_succ_self _)) (ih _ _ _)
theorem RT(hX:nN X):∀(as:List cR) (i a:Nat) (mr:List Int) (ol:List D),(∀x∈as,iL x)->i+as.length<=50->ol.length+as.length<=50->gH X.pf.R M a (et i mr.length as)->lN M mr.length (nJ i a mr as)->
  bP X (a+(et i mr.length as).length) (.O [] ((opens i as).reverse++ol)) b->bP X a (.O [] ol) b:=by
 intro l0
 induction l0 with
 |nil=>
  intro _ _ _ _ _ _ _ _ _ k;exact k
 |cons x as ih=>
  intro i a mr ol hl h1 h2 hf hM k;rw[List.length_cons]at h1 h2;obtain⟨f1,f2⟩:=cw (c1:=cA i mr.length x) (c2:=et (i+1) (mr.length+1) as) hf;unfold nJ at hM;have hk:=t8 as (i+1) (a+(cA i mr.length x).length) (eS (-1::mr) mr.length ((a+(cA i mr.length x).length:Nat):Int));have hm:M mr.length=Int.ofNat (a+(cA i mr.length x).length):=by
   have h:=hM mr.length (Nat.le_refl _) (Nat.lt_of_lt_of_le (by rw[aE,List.length_cons];omega) hk.1);rw[hk.2 _ (by rw[aE,List.length_cons];omega),dH _ (by rw[List.length_cons];omega) (by rw[List.length_cons];omega),if_pos rfl]at h;exact h.symm
  refine VN hX (hl x List.mem_cons_self) (ai h1) (ai h2) f1 hm ?_;have DG:(eS (-1::mr) mr.length ((a+(cA i mr.length x).length:Nat):Int)).length=mr.length+1:=by rw[aE,List.length_cons]
  have hlen:(fx i x ol).length<=ol.length+1:=by
   unfold fx;split
   ·rw[List.length_cons];omega
   ·omega
  refine ih (i+1) (a+(cA i mr.length x).length) (eS (-1::mr) mr.length ((a+(cA i mr.length x).length:Nat):Int)) (fx i x ol) (fun y hy=>hl y (List.mem_cons_of_mem _ hy)) (ai h1) (aZ h2 hlen) (by rw[DG];exact f2) (by rw[DG];exact oV hM (Nat.le_succ _)) ?_;refine az (DG) ?_;have e1:a+(cA i mr.length x).length+(et (i+1) (mr.length+1) as).length=a+(et i mr.length (x::as)).length:=by
   show _=a+(et (i+1) (mr.length+1) as++cA i mr.length x).length;rw[List.length_append];omega
  have e2:(opens (i+1) as).reverse++fx i x ol=(opens i (x::as)).reverse++ol:=by
   unfold fx;show _=(match j8 x with|true=>lF i (nH x)::opens (i+1) as|false=>opens (i+1) as).reverse++ol;cases j8 x<;>simp
  refine az (e1) ?_;refine az (e2) ?_;exact k
end
noncomputable def Oq(C:Cl):Prop:=∀(i:Nat) (a:cR) (fr:Fr) (rr:List Row) (mr:List Int) (aB:List (Nat×Nat)) (av h:Int) (γ:Nat) (Q:KV),rr.length<=95000->mr.length<=95000->
 Q (.d .none) (cS fr (cA i mr.length a++rr) (eS (-1::mr) mr.length (cA i mr.length a++rr).length) aB h av γ [])->C eQ [.b 4,.d (.int (Int.ofNat i)),.d (eI a)] (cS fr rr mr aB h av γ []) Q
theorem VO{C:Cl}(hG:iw C):Oq (Run C):=by
 intro i a fr rr mr aB av h γ Q hr hm k;show gz (ex G C 60) ((P.code eQ).take 3++(P.code eQ).drop 3) [(af,.b 4),(aW,.d (.int (Int.ofNat i))),(iD,.d (eI a))] (cS fr rr mr aB h av γ []) (fQ Q);refine bq fun R hR=>?_;have fin:∀h1:Int,h1=h->R [(af,.b 4),(aW,.d (.int (Int.ofNat i))),(iD,.d (eI a)),(fp,.d (oJ (jF a))),(cJ,.d (.str (kindS a))),(bI,.d (nO a)),(bo,.d (.list (pW a))),(qW,.d (.int (Int.ofNat mr.length)))] (cS fr (cH (jF a) mr.length++rr) (-1::mr) aB h1 av γ []):=by
  intro h1 e1;subst e1;refine hR _ _ ?_;clear hR R;have hg:(cH (jF a) mr.length).length<=2:=by cases jF a<;>simp[cH]
  unfold cA at k;generalize jF a=g0 at hg k⊢
  induction a using cR.casesOn with
  |acc g l e aP fm body r=>
   have Dl:=gu aP;have nV:=cT aP;refine hG.family aP fr (cH g0 mr.length++rr) (-1::mr) aB h1 av γ _ (by rw[List.length_append];exact aZ hr hg) fun h2 e2=>?_;refine hG.lay (.iP i (cE e) (bA aP)) fr (cg aP++(cH g0 mr.length++rr)) (-1::mr) aB h2 av γ _ (by rw[List.length_append,List.length_append];exact uB hr hg (il Dl) nV (ai nV (ai nV))) fun h3 e3=>?_;refine hG.put fr (.iP i (cE e) (bA aP)::(cg aP++(cH g0 mr.length++rr))) (-1::mr) aB h3 av γ mr.length h1 _ (by rw[List.length_cons,List.length_append,List.length_append];exact uB hr hg (il Dl) nV (ai nV (ai nV))) (by rw[List.length_cons];exact ai hm) (by rw[List.length_cons];omega) ?_;simp only[gy,List.cons_append,List.append_assoc]at k⊢;exact k
  |dr g l t u r=>
   refine hG.val t fr (cH g0 mr.length++rr) (-1::mr) aB h1 av γ _ (by rw[List.length_append];exact aZ hr hg) fun h2 e2=>?_;refine hG.lay (.jT i u) fr (dD t::(cH g0 mr.length++rr)) (-1::mr) aB h2 av γ _ (by rw[List.length_cons,List.length_append];exact aZ hr hg) fun h3 e3=>?_;refine hG.put fr (.jT i u::dD t::(cH g0 mr.length++rr)) (-1::mr) aB h3 av γ mr.length h1 _ (by rw[List.length_cons,List.length_cons,List.length_append];exact aZ hr hg) (by rw[List.length_cons];exact ai hm) (by rw[List.length_cons];omega) ?_;simp only[gy,List.cons_append,List.append_assoc,List.nil_append]at k⊢;exact k
  |term g r=>
   refine hG.lay (.pD i) fr (cH g0 mr.length++rr) (-1::mr) aB h1 av γ _ (by rw[List.length_append];exact aZ hr hg) fun h3 e3=>?_;refine hG.put fr (.pD i::(cH g0 mr.length++rr)) (-1::mr) aB h3 av γ mr.length h1 _ (by rw[List.length_cons,List.length_append];exact aZ hr hg) (by rw[List.length_cons];exact ai hm) (by rw[List.length_cons];omega) ?_;simp only[gy,List.cons_append,List.append_assoc,List.nil_append]at k⊢;exact k
 rw[uN]at fin⊢;cases hg:jF a with
 |none=>
  rw[hg]at fin;refine hG.new fr rr mr aB h av γ _ (by omega) ?_;exact fin h rfl
 |some g=>
  rw[hg]at fin;rcases g with _|_
  ·conv=>whnf
   refine hG.new fr rr mr aB h av γ _ (by omega) ?_;refine hG.RK (.ofNat 0) fr rr (-1::mr) aB h av γ _ (by omega) fun h1 e1=>?_;refine hG.lay (.j7 mr.length) fr (.const (.ofNat 0)::rr) (-1::mr) aB h1 av γ _ (by rw[List.length_cons];exact ai hr) fun h2 e2=>?_;exact fin h2 (by rw[e2,e1];simp only[Bb];omega)
  ·conv=>whnf
   refine hG.new fr rr mr aB h av γ _ (by omega) ?_;refine hG.RK (.ofNat 1) fr rr (-1::mr) aB h av γ _ (by omega) fun h1 e1=>?_;refine hG.lay (.j7 mr.length) fr (.const (.ofNat 1)::rr) (-1::mr) aB h1 av γ _ (by rw[List.length_cons];exact ai hr) fun h2 e2=>?_;exact fin h2 (by rw[e2,e1];simp only[Bb];omega)
noncomputable def DH(x:D)(l:Int)(alts:List D)(other:D)(ms:List D)(o:Nat)(rest:ak):ak:=(af,.b 4)::(aD,.d x)::(bH,.d (.str bB))::(ba,.d (.int l))::(aC,.d (.list alts))::(dp,.d other)::(dn,.d (.list ms))::(iX,.d (.int (Int.ofNat (o+1))))::(dA,.d (.int (Int.ofNat o)))::rest
noncomputable def sf:List T:=[.expr (.call eQ [(.var af),(.var aW),(.sub (.var aC) (.var aW))])]
theorem IY{C:Cl}(hA:Oq C){x:D}{l:Int}{alts ms:List D}{other:D}{o:Nat}{fr:Fr}{aB:List (Nat×Nat)}{av h:Int}{γ:Nat}{Q:KF}:∀(as pre:List cR) (rest:ak) (rr:List Row) (mr:List Int),alts=(pre++as).map eI->(rest=[]\/∃v,rest=[(aW,.d v)])->pre.length+as.length<=50->rr.length+4*as.length<=95000->mr.length+as.length<=95000->
  (∀aG,((as=[]/\aG=rest)\/∃v,aG=[(aW,.d v)])->Q .next (DH x l alts other ms o aG) (cS fr (et pre.length mr.length as++rr) (nJ pre.length rr.length mr as) aB h av γ []))->
  forL (ex G C 59) [aW] sf none (eD pre.length as.length) (DH x l alts other ms o rest) (cS fr rr mr aB h av γ []) Q:=by
 intro l0
 induction l0 with
 |nil=>
  intro pre rest rr mr _ _ _ _ _ k;exact k rest (.inl ⟨rfl,rfl⟩)
 |cons a as ih=>
  intro pre rest rr mr ha d8 h1 h2 h3 k;rw[List.length_cons]at h1 h2 h3;have hx:idx alts (Int.ofNat pre.length)=some (eI a):=by
   have:=AI (pre.map eI) (eI a) (as.map eI);rw[List.length_map]at this;refine az (ha) ?_;refine az (List.map_append) ?_;refine az (List.map_cons) ?_;exact this
  have pV:=t7 pre.length mr.length a;show forL (ex G C 59) [aW] sf none (.int (Int.ofNat pre.length)::eD (pre.length+1) as.length) (DH x l alts other ms o rest) (cS fr rr mr aB h av γ []) Q;refine az (dm) ?_;have e:pre.length+1=(pre++[a]).length:=by rw[List.length_append];rfl
  have el:(cA pre.length mr.length a++rr).length=rr.length+(cA pre.length mr.length a).length:=by rw[List.length_append];omega
  have go:∀R:ak->St->Prop,R (DH x l alts other ms o [(aW,.d (.int (Int.ofNat pre.length)))]) (cS fr (cA pre.length mr.length a++rr) (eS (-1::mr) mr.length (cA pre.length mr.length a++rr).length) aB h av γ [])->
    bind1 [aW] (.int (Int.ofNat pre.length)) (DH x l alts other ms o rest) fun d9=>gz (ex G C 59) sf d9 (cS fr rr mr aB h av γ []) (wo R Q):=by
   intro R hR;rcases d8 with rfl|⟨v,rfl⟩
   all_goals
    conv=>whnf
    refine az (hx) ?_;refine aj (by unfold ah;exact ai h1) ?_;refine hA pre.length a fr rr mr aB av h γ _ (ai h2) (ai h3) ?_;exact hR
  refine go _ ?_;refine az (e) ?_;refine ih (pre++[a]) [(aW,.d (.int (Int.ofNat pre.length)))] _ _ (by rw[ha,List.append_assoc];rfl) (.inr ⟨_,rfl⟩) (by rw[<-e];exact ai h1) (by rw[el];exact aZ h2 pV) (by rw[aE,List.length_cons];exact ai h3) fun gV um=>?_;have:=k gV (.inr (by
   rcases um with⟨_,rfl⟩|um
   ·exact⟨_,rfl⟩
   ·exact um))
  rw[<-e,el,aE,List.length_cons];have e3:et pre.length mr.length (a::as)++rr=et (pre.length+1) (mr.length+1) as++(cA pre.length mr.length a++rr):=List.append_assoc _ _ _;rw[e3]at this;exact this
noncomputable def PH(lo hi:Nat)(m1 m2:List Int):Prop:=m1.length<=m2.length/\∀m,m<m1.length->m<lo\/hi<=m->f9 m2 m=f9 m1 m
noncomputable def Ot(pf:PF)(D0:Nat)(a:cR)(b:Bk)(w:Way)(b':Bk):Prop:=∀d,D0<=d->r8 (Cd G P d) pf a b w b'
noncomputable def GoodC(X:PX)(M:Nat->Int)(D0 p pend:Nat)(kL:Option (Nat×Nat))(a:cR):Prop:=lJ M kL pend->∀b,b.told.length<=p->∃w b',Ot X.pf D0 a b w b'/\After X M p pend kL b w b'
noncomputable def bK(n:Nat):Nat:=2*BS n+42
structure VP(n:Nat)(a:cR)(aB:List (Nat×Nat))(av mk out:Nat)(rr:List Row)(mr:List Int)(c:List Row)(Jn:List Int):Prop where
 len:c.length<=bK n
 jX:Jn.length<=mr.length+bK n
 keep:PH mk (mk+1) mr Jn
 at_:f9 Jn mk=(rr.length:Int)
 W2:out<mr.length->jx Jn.length c
 good:∀X M,nN X->gH X.pf.R M rr.length c->lN M mr.length Jn->∀pend:Nat,M out=Int.ofNat pend->rr.length+c.length<=pend->pend<=90000->GoodC X M (DL n) rr.length pend (tq aB av) a
noncomputable def qH:List T:=[.asg (.tup [fp,cJ,bI,bo]) (.sub (.var aC) (.var aW)),.expr (.call ed [(.var af),(.sub (.var dn) (.var aW)),(.var aN)]),.fL (.cmp .eq (.var cJ) (.c (.str bw))) [.expr (.call cB [(.var af),(.tup [(.c (.str cO)),(.sub (.var bI) (.c (.int (.ofNat 4))))])]),.expr (.call ee [(.var af),(.sub (.var bI) (.c (.int (.ofNat 5))))])] [],.expr (.call bW [(.var af),(.var bo)]),.expr (.call cB [(.var af),(.tup [(.c (.str jL)),(.var iX)])])]
noncomputable def W3(at_ g k d s:D):ak:=[(aW,.d at_),(aN,.d (.int 0)),(fp,.d g),(cJ,.d k),(bI,.d d),(bo,.d s)]
noncomputable def AX(rest:ak):Prop:=(∃v,rest=[(aW,.d v),(aN,.d (.int 0))])\/∃a g k d s,rest=W3 a g k d s
noncomputable def uS:cR->Option (List D)
 |.acc _ _ _ _ _ body _=>some body
 |_=>none
theorem bs0(n:Nat):BS 0<=BS n:=GZ (Nat.zero_le n)
theorem Ou{C:Cl}{n:Nat}{sv:Bool}(hG:iw C){x:D}{l:Int}{alts ms:List D}{other:D}{o i mk:Nat}{rest:ak}(d8:AX rest){a:cR}(hi:i<=50)(hx:idx alts (Int.ofNat i)=some (eI a))(hms:idx ms (Int.ofNat i)=some (.int (Int.ofNat mk)))
  (hA:∀body,uS a=some body->LU n C body) (hR:uw 0 C sv (pW a)) {fr:Fr} {rr:List Row} {mr:List Int} {aB:List (Nat×Nat)} {av γ:Nat} {R:ak->St->Prop} {Q:KF} (hp:Pre n sv rr mr aB av) (hr:rr.length+3*bK n<=89900) (hm:mr.length+3*bK n<=89900) (pV:aB.length+1+n<=10) (G2:mk<mr.length)
  (k:∀c Jn gE aG,AX aG->VP n a aB av mk (o+1) rr mr c Jn->R (DH x l alts other ms o aG) (cS fr (c++rr) Jn aB 0 av gE [])):
  bind1 [aW] (.int (Int.ofNat i)) (DH x l alts other ms o rest) fun d9=>gz (ex G C 59) qH d9 (cS fr rr mr aB 0 av γ []) (wo R Q):=by
 have pH:=i7 n;have hb0:=bs0 n;have hr:rr.length+6*BS n<=89774:=by unfold bK at hr;exact ai hr
 have hm:mr.length+6*BS n<=89774:=by unfold bK at hm;exact ai hm
 have RR:rr.length<=89678:=by exact aZ (qe 6 pH) hr
 have W0:mr.length<=89678:=by exact aZ (qe 6 pH) hm
 rw[uN]at hx;show gz (ex G C 59) (qH.take 2++qH.drop 2) (i9 aW (.d (.int (Int.ofNat i))) (DH x l alts other ms o rest)) (cS fr rr mr aB 0 av γ []) (wo R Q);refine bq fun R2 tT=>?_;have VQ:∀(L3:List Row) (gL:List Int),L3.length+74<=90000->gL.length+74<=90000->mr.length<=gL.length->N9 0 sv L3 gL aB av:=fun L3 gL q1 q2 q3=>by
  have h3:=hp.bl;have h4:=hp.al;refine⟨by show L3.length+64+10<=90000;omega,by show gL.length+64+10<=90000;omega,hp.sv,by exact ai h3,fun p rA=>?_,by exact ai pV⟩;have:=hp.ac p rA;exact⟨this.1,Nat.lt_of_lt_of_le this.2 q3⟩
 have fin:R2 (DH x l alts other ms o (W3 (.int (Int.ofNat i)) (oJ (jF a)) (.str (kindS a)) (nO a) (.list (pW a)))) (cS fr rr (eS mr mk rr.length) aB 0 av γ []):=by
  refine tT _ _ ?_;clear tT R2;have simple:(uS a=none)->(∀C' pf b w b',oR C' pf (pW a) b w b'->r8 C' pf a b w b')->gz (ex G C 59) (qH.drop 3) (DH x l alts other ms o (W3 (.int (Int.ofNat i)) (oJ (jF a)) (.str (kindS a)) (nO a) (.list (pW a)))) (cS fr rr (eS mr mk rr.length) aB 0 av γ []) (wo R Q):=by
   intro _ hch;refine hR fr rr (eS mr mk rr.length) aB av γ _ (VQ rr _ (ai hr) (by rw[aE];exact ai hm) (by rw[aE];omega)) fun new iT oW SP hP=>?_;have q1:new.length<=32:=hP.len;have q2:=hP.jX;have q3:=hP.keep;have PI:=q3.1;rw[aE]at q2 PI;have q2:iT.length<=mr.length+32:=q2;refine hG.lay (.gJ (o+1)) fr (new++rr) iT aB 0 av oW _ (by rw[List.length_append];exact aZ RR q1) fun h3 e3=>?_;have e3:h3=0:=by rw[e3];rfl
   subst e3;refine k (.gJ (o+1)::new) iT oW _ (.inr ⟨_,_,_,_,_,rfl⟩) ⟨by rw[List.length_cons];unfold bK;exact ai q1,by unfold bK;exact ai q2,⟨by omega,fun m h1 h2=>?_⟩,?_,?_,fun X M hX hF hM pend ux Bc w7 hE b hb=>?_⟩
   ·rw[q3.2 m (by rw[aE];omega),dH _ G2 h1,if_neg (by omega)]
   ·rw[q3.2 mk (by rw[aE];omega),dH _ G2 G2,if_pos rfl]
   ·exact fun ho=>⟨Nat.lt_of_lt_of_le ho PI,hP.FD⟩
   ·obtain⟨f1,f2⟩:=hF;rw[List.length_cons]at Bc;have PG:lJ M (tq aB av) (rr.length+new.length):=fun m q he=>by
     refine bc fun bf=>?_;obtain⟨p,e1,e2,e3⟩:=hE m q he;refine bf ?_;exact⟨p,e1,by exact aZ Bc e2,e3⟩
    refine bc fun bf=>?_;obtain⟨w,b',w1,a1⟩:=hP.good X M hX f1 (by rw[aE];exact hM) PG b hb;refine bf ?_;refine⟨w,b',fun d hd=>hch _ _ _ _ _ (w1.at_ (by unfold DL at hd⊢;exact ai hd)),?_⟩;exact a1.post fun _ ht=>⟨by exact aZ Bc ht,fun z=>wL hX f2 ux (ai Bc) z⟩
  induction a using cR.casesOn with
  |dr g l0 t u r=>
   have:=simple rfl (fun _ _ _ _ _ h=>h);exact this
  |term g r=>
   have:=simple rfl (fun _ _ _ _ _ h=>h);exact this
  |acc g l0 e aP fm body r=>
   have hA:=hA body rfl;refine hG.lay (.cL (dZ fm)) fr rr (eS mr mk rr.length) aB 0 av γ _ (by omega) fun h1 e1=>?_;have e1:h1=0:=by rw[e1];rfl
   subst e1;refine hA fr (.cL (dZ fm)::rr) (eS mr mk rr.length) aB av γ _ (by rw[List.length_cons];exact ai hr) (by rw[aE];exact ai hm) hp.bl (fun p rA=>⟨(hp.ac p rA).1,by rw[aE];exact(hp.ac p rA).2⟩) pV fun eJ iT oW SP P1=>?_;have q1:=P1.len;have q2:=P1.jX;have q3:=P1.keep;have PI:=q3.1;rw[aE]at q2 PI;refine hR fr (eJ++.cL (dZ fm)::rr) iT aB av oW _ (VQ _ _ (by rw[List.length_append,List.length_cons];exact aZ hr q1) (aZ hm q2) (by omega)) fun eK Jo γ3 τ3 P2=>?_;have s1:eK.length<=32:=P2.len;have s2:Jo.length<=iT.length+32:=P2.jX;have s3:=P2.keep;have Zk:=s3.1;refine hG.lay (.gJ (o+1)) fr (eK++(eJ++.cL (dZ fm)::rr)) Jo aB 0 av γ3 _ (by rw[List.length_append,List.length_append,List.length_cons];exact jG hr q1 s1) fun h3 e3=>?_;have e3:h3=0:=by rw[e3];rfl
   subst e3
   conv=>whnf
   have kk:=k (.gJ (o+1)::(eK++(eJ++[.cL (dZ fm)]))) Jo γ3 (W3 (.int (Int.ofNat i)) (oJ g) (.str bw) (qC l0 e aP fm body) (.list r)) (.inr ⟨_,_,_,_,_,rfl⟩) ⟨by simp only[List.length_cons,List.length_append,List.length_nil];unfold bK;exact aZ q1 s1,by unfold bK;exact aZ q2 s2,⟨by exact aZ PI Zk,fun m h1 h2=>?_⟩,?_,?_,fun X M hX hF hM pend ux Bc w7 hE b hb=>?_⟩
   ·simp only[List.cons_append,List.append_assoc,List.nil_append]at kk;exact kk
   ·rw[s3.2 m (aZ PI h1),q3.2 m (by rw[aE];omega),dH _ G2 h1,if_neg (by omega)]
   ·rw[s3.2 mk (aZ G2 PI),q3.2 mk (by rw[aE];omega),dH _ G2 G2,if_pos rfl]
   ·exact fun ho=>⟨by show o+1<Jo.length;exact jG PI Zk ho,P2.FD.app ((P1.FD.mono Zk).app (b:=[.cL (dZ fm)]) ⟨trivial,trivial⟩)⟩
   ·obtain⟨f1,f2⟩:=hF;have RU:=cw f1;have f3:=RU.1;have f4:=RU.2;clear RU;have RV:=cw f3;have f5:=RV.1;have f6:=RV.2;clear RV;simp only[List.length_cons,List.length_append,List.length_nil]at Bc;have e4:rr.length+(eJ++[Row.cL (dZ fm)]).length=rr.length+1+eJ.length:=by simp only[List.length_append,List.length_cons,List.length_nil];omega
    have e5:rr.length+(eK++(eJ++[Row.cL (dZ fm)])).length=rr.length+1+eJ.length+eK.length:=by simp only[List.length_append,List.length_cons,List.length_nil];omega
    have e6:(eJ++Row.cL (dZ fm)::rr).length=rr.length+1+eJ.length:=by simp only[List.length_append,List.length_cons];omega
    rw[e4]at f4;rw[e5]at f2;have hlf:=eW hX f2;have hM1:lN M (eS mr mk rr.length).length iT:=by rw[aE];exact uQ s3 hM
    have g1:=P1.good X M hX f6 hM1;have g2:=P2.good X M hX (by rw[e6];exact f4) (oV hM (by omega));rw[e6]at g2;have l3:(Row.cL (dZ fm)::rr).length=rr.length+1:=rfl;rw[l3]at g1;refine bc fun bf=>?_;obtain⟨w1,b1,Zl,ht1,Hd⟩:=g1 (b.tell (wX fm)) (by show b.told.length+1<=_;exact ai hb);refine bf ?_;have mV:bP X (rr.length+1) (.N []) (b.tell (wX fm))->bP X rr.length (.N []) b:=fun z=>yi hX f5.2 hb z;have PG:lJ M (tq aB av) (rr.length+1+eJ.length+eK.length):=fun m q he=>by
     refine bc fun bf=>?_;obtain⟨p,e1,e2,e3⟩:=hE m q he;refine bf ?_;exact⟨p,e1,by exact aZ Bc e2,e3⟩
    induction w1 using Way.casesOn with
    |gj=>exact⟨.gj,b1,fun d hd=>⟨.gj,b1,Zl.at_ hd,by omega,rfl,rfl⟩,ht1,fun z=>mV (Hd z)⟩
    |done=>
     refine bc fun bf=>?_;obtain⟨w,b',w2,a2⟩:=g2 PG (b1.tell fP) (by show b1.told.length+1<=_;exact Hd.1);refine bf ?_;refine⟨w,b',fun d hd=>⟨.done,b1,Zl.at_ hd,by omega,w2.at_ (by unfold DL at hd⊢;exact ai hd)⟩,?_⟩;have a3:After X M (rr.length+1+eJ.length) pend (tq aB av) (b1.tell fP) w b':=a2.post fun _ ht=>⟨by exact aZ Bc ht,fun z=>wL hX f2 ux (ai Bc) z⟩;exact a3.pre fun z=>mV (Hd.2 z)
    |left=>
     refine bc fun bf=>?_;obtain⟨w,b',w2,a2⟩:=g2 PG (b1.tell fP) (by show b1.told.length+1<=_;exact Hd.1);refine bf ?_;refine⟨w,b',fun d hd=>⟨.left,b1,Zl.at_ hd,by omega,w2.at_ (by unfold DL at hd⊢;exact ai hd)⟩,?_⟩;have a3:After X M (rr.length+1+eJ.length) pend (tq aB av) (b1.tell fP) w b':=a2.post fun _ ht=>⟨by exact aZ Bc ht,fun z=>wL hX f2 ux (ai Bc) z⟩;exact a3.pre fun z=>mV (Hd.2 z)
 rcases d8 with⟨v,rfl⟩|⟨a0,g0,k0,d0,s0,rfl⟩
 all_goals
  conv=>whnf
  refine az (hx) ?_
  conv=>whnf
  refine aj (by unfold ah;omega) ?_
  conv=>whnf
  refine az (hms) ?_;refine aj (by unfold ah;omega) ?_;refine hG.put fr rr mr aB 0 av γ mk 0 _ (by omega) (by omega) G2 ?_;exact fin
structure VR(n:Nat)(as:List cR)(aB:List (Nat×Nat))(av uT out i0:Nat)(rr:List Row)(mr:List Int)(c:List Row)(MH:List Int):Prop where
 len:c.length<=as.length*bK n
 jX:MH.length<=mr.length+as.length*bK n
 keep:PH (uT+i0) (uT+i0+as.length) mr MH
 W2:out<mr.length->jx MH.length c
 good:∀j a,aq as j=some a->∃p:Nat,rr.length<=p/\f9 MH (uT+i0+j)=(p:Int)/\∀X M,nN X->gH X.pf.R M rr.length c->lN M mr.length MH->∀pend:Nat,M out=Int.ofNat pend->rr.length+c.length<=pend->pend<=90000->p<=pend/\GoodC X M (DL n) p pend (tq aB av) a
theorem w9:∀(k i0 i:Nat),i<k->idx (eD i0 k) (Int.ofNat i)=some (.int (Int.ofNat (i0+i)))
 |0,_,_,h=>absurd h (Nat.not_lt_zero _)
 |k+1,i0,0,_=>rfl
 |k+1,i0,i+1,h=>by
  have:=w9 k (i0+1) i (Nat.lt_of_succ_lt_succ h);refine az (show i0+(i+1)=i0+1+i by omega) ?_;exact this
theorem Ov{C:Cl}{n:Nat}{sv:Bool}(hG:iw C){x:D}{l:Int}{alts:List D}{other:D}{o uT kk:Nat}{fr:Fr}{aB:List (Nat×Nat)}{av:Nat}{RW:List Int}(pV:aB.length+1+n<=10)
  (Oi:∀(L3:List Row) (gL:List Int),L3.length+bK n<=89900->gL.length+bK n<=89900->RW.length<=gL.length->Pre n sv L3 gL aB av) {Q:KF}:∀(as pre:List cR) (rest:ak) (rr:List Row) (mr:List Int) (γ:Nat),alts=(pre++as).map eI->pre.length+as.length=kk->kk<=50->AX rest->
  (∀a∈as,(∀body,uS a=some body->LU n C body)/\uw 0 C sv (pW a))->rr.length+as.length*bK n+2*bK n<=89900->mr.length+as.length*bK n+2*bK n<=89900->uT+kk<=mr.length->RW.length<=mr.length->
  (∀c MH gE aG,AX aG->VR n as aB av uT (o+1) pre.length rr mr c MH->Q .next (DH x l alts other (eD uT kk) o aG) (cS fr (c++rr) MH aB 0 av gE []))->
  forL (ex G C 59) [aW] qH none (eD pre.length as.length) (DH x l alts other (eD uT kk) o rest) (cS fr rr mr aB 0 av γ []) Q:=by
 intro l0
 induction l0 with
 |nil=>
  intro pre rest rr mr γ _ _ _ d8 _ _ _ _ _ k;exact k [] mr γ rest d8 ⟨Nat.zero_le _,Nat.le_add_right _ _,⟨Nat.le_refl _,fun _ _ _=>rfl⟩,fun _=>trivial,fun j a h=>by rcases h with _|_⟩
 |cons a as ih=>
  intro pre rest rr mr γ ha DC SG d8 hC h1 h2 h3 hB k;rw[List.length_cons]at DC;have e1:(a::as).length*bK n=as.length*bK n+bK n:=Nat.succ_mul _ _;rw[e1]at h1 h2;have hx:idx alts (Int.ofNat pre.length)=some (eI a):=by
   have:=AI (pre.map eI) (eI a) (as.map eI);rw[List.length_map]at this;rw[ha,List.map_append,List.map_cons];exact this
  obtain⟨hA,hR⟩:=hC a List.mem_cons_self;show forL (ex G C 59) [aW] qH none (.int (Int.ofNat pre.length)::eD (pre.length+1) as.length) (DH x l alts other (eD uT kk) o rest) (cS fr rr mr aB 0 av γ []) Q;rw[dm];refine Ou hG d8 (aZ (il DC) SG) hx (w9 kk uT pre.length (ai (il DC))) hA hR (Oi rr mr (ai h1) (ai h2) hB) (ai h1) (ai h2) pV (aZ (il DC) h3) fun c1 Jn VS VT hr1 hT=>?_;have t1:=hT.len;have t2:=hT.jX;have t3:=hT.keep;have RX:=t3.1;have e:pre.length+1=(pre++[a]).length:=by rw[List.length_append];rfl
  rw[e];refine ih (pre++[a]) VT (c1++rr) Jn VS (by rw[ha,List.append_assoc];rfl) (by rw[<-e];exact Nat.le_antisymm (ai (il DC)) (ai (xq DC))) SG hr1 (fun y hy=>hC y (List.mem_cons_of_mem _ hy)) (by rw[List.length_append];exact aZ h1 t1) (aZ h2 t2) (aZ h3 RX) (aZ hB RX) fun c2 MH oW gV um xa=>?_;have u1:=xa.len;have u2:=xa.jX;have u3:=xa.keep;have Zm:=u3.1;rw[<-e]at u3;rw[<-List.append_assoc];refine k (c2++c1) MH oW gV um ⟨by rw[e1,List.length_append];exact aZ t1 u1,by rw[e1];exact aZ t2 u2,⟨by exact aZ RX Zm,fun m hm hor=>?_⟩,fun ho=>(xa.W2 (aZ RX ho)).app ((hT.W2 ho).mono Zm),fun j y hj=>?_⟩
  ·rw[List.length_cons]at hor;rw[u3.2 m (aZ RX hm) (by omega),t3.2 m hm (by omega)]
  ·induction j using Nat.casesAuxOn with
   |zero=>
    rcases hj with _|_;refine⟨rr.length,Nat.le_refl _,?_,fun X M hX hF hM pend ux Bc w7=>?_⟩
    ·rw[Nat.add_zero,u3.2 _ (jG (il DC) h3 RX) (by exact .inl (by omega))];exact hT.at_
    ·obtain⟨f1,f2⟩:=cw hF;rw[List.length_append]at Bc;refine⟨by exact ai Bc,hT.good X M hX f1 (fun m q1 q2=>?_) pend ux (ai Bc) w7⟩;refine Je (u3.2 m q2 (by exact .inr (jG (il DC) h3 q1))) ?_;exact hM m q1 (aZ Zm q2)
   |succ j=>
    obtain⟨p,p1,p2,p3⟩:=xa.good j y hj;rw[List.length_append]at p1;refine⟨p,by exact ai p1,?_,fun X M hX hF hM pend ux Bc w7=>?_⟩
    ·rw[<-e]at p2;refine az (show uT+pre.length+(j+1)=uT+(pre.length+1)+j by omega) ?_;exact p2
    ·obtain⟨f1,f2⟩:=cw hF;rw[List.length_append]at Bc;have el:(c1++rr).length=rr.length+c1.length:=by rw[List.length_append];omega
     exact p3 X M hX (by rw[el];exact f2) (oV hM RX) pend ux (by rw[el];exact ai Bc) w7
theorem IZ:∀(as:List cR) (i0 j:Nat) (x:D),aq (opens i0 as) j=some x->∃i a,aq as i=some a/\x=lF (i0+i) (nH a):=by
 intro l0
 induction l0 with
 |nil=>
  intro _ _ _ h;cases h
 |cons a as ih=>
  intro i0 j x h;unfold opens at h;split at h
  ·induction j using Nat.casesAuxOn with
   |zero=>rcases h with _|_;exact⟨0,a,rfl,rfl⟩
   |succ j=>
    refine bc fun bf=>?_;obtain⟨i,y,h1,h2⟩:=ih (i0+1) j x h;refine bf ?_;exact⟨i+1,y,h1,by rw[h2,show i0+1+i=i0+(i+1) by omega]⟩
  ·obtain⟨i,y,h1,h2⟩:=ih (i0+1) j x h;exact⟨i+1,y,h1,by rw[h2,show i0+1+i=i0+(i+1) by omega]⟩
theorem yV{α:Type}:∀(l:List α) (j:Nat),j<l.length->∃x,aq l j=some x
 |[],_,h=>absurd h (Nat.not_lt_zero _)
 |x::_,0,_=>⟨x,rfl⟩
 |_::l,j+1,h=>yV l j (Nat.lt_of_succ_lt_succ h)
theorem xb{α β:Type}(f:α->β):∀(l:List α) (j:Nat) (x:α),aq l j=some x->aq (l.map f) j=some (f x)
 |[],_,_,h=>by cases h
 |_::_,0,_,h=>by cases h;rfl
 |_::l,j+1,x,h=>xb f l j x h
theorem xc:∀(k i0 i:Nat),i<k->aq (List.range' i0 k) i=some (i0+i)
 |0,_,_,h=>absurd h (Nat.not_lt_zero _)
 |k+1,i0,0,_=>rfl
 |k+1,i0,i+1,h=>by
  have:=xc k (i0+1) i (Nat.lt_of_succ_lt_succ h);refine az (show i0+(i+1)=i0+1+i by omega) ?_;exact this
noncomputable def oL:Option (List D)->List D
 |none=>[]
 |some s=>s
theorem Ow{X:PX}{M:Nat->Int}(hX:nN X){n:Nat}{l:Int}{as:List cR}{o:Option (List D)}{kL:Option (Nat×Nat)}{a uT m2 ow Dn pO pend:Nat}(qI:as≠[])(hlen:as.length<=3)(ME:∀x∈as,iL x)
  (fo:idx X.pf.R (Int.ofNat a)=some (bV M .gi)) (LQ:∀b,bP X Dn (.O [] (opens 0 as).reverse) b->bP X (a+1) (.O [] []) b)
  (fs:idx X.pf.R (Int.ofNat Dn)=some (bV M (.select o.isSome (List.range' uT as.length) ow))) (W4:a+1<=Dn) (hO:M ow=Int.ofNat pO) (h1:Dn<pO) (h2:pO<=pend) (h3:pend<=90000)
  (gO:∀s,o=some s->GU X M (DL 0) pO pend kL s)
  (gB:∀i x,aq as i=some x->∃p:Nat,Dn<p/\M (uT+i)=Int.ofNat p/\p<=pend/\GoodC X M (DL n) p pend kL x):
  L2 X M (DL (n+1)-1) a pend kL (cy (.sel l as o)):=by
 intro hE b hb;have VU:=eW hX fo;have Zn:=eW hX fs;have DE:=(wV as 0 (ai hlen) ME).2;have Kl:=wW hlen ME;have mV:bP X Dn (.O [] (opens 0 as).reverse) (b.tell bF)->bP X a (.N []) (b.tell bF):=fun z=>
  aX hX fo (by decide) (Nat.lt_succ_self _) Lv (.inl ⟨rfl,rfl⟩) (LQ _ z)
 have PB:(b.tell bF).told.length<=100000:=by show b.told.length+1<=_;exact aZ hb VU
 have walk:∀w b',(∀d,10*n+17<=d->VB (Cd G P d) X.pf as o b w b')->fy X.pf (DL (n+1)-1) (cy (.sel l as o)) b w b':=fun w b' h=>by
  rw[VK];exact jY fun d hd=>by
   induction d using Nat.casesAuxOn with
   |zero=>omega
   |succ d=>exact nG rfl (VC (jy (ai hd)) (mn (ai hd)) (AP (ai hd)) qI hlen ME (aZ hb VU) hX.gG (h d (ai hd)))
 have L4:(opens 0 as).reverse.reverse=opens 0 as:=List.reverse_reverse _;have xA:(opens 0 as).reverse.length=(opens 0 as).length:=List.length_reverse;cases AY:isNil (opens 0 as)with
 |true=>
  have W5:opens 0 as=[]:=by
   cases h:opens 0 as with
   |nil=>rfl
   |cons x y=>rw[h]at AY;rcases AY with _|_
  induction o using Option.casesOn with
  |some s=>
   refine bc fun bf=>?_;obtain⟨w,b',w1,a1⟩:=gO s rfl hE (cj b as (some s)) (by show b.told.length+1+1<=_;exact jG W4 h1 hb);refine bf ?_;refine⟨w,b',walk w b' fun d hd=>.inl ⟨s,AY,rfl,w1.at_ (by unfold DL;exact ai hd)⟩,a1.pre fun z=>mV ?_⟩;refine az (W5) ?_;have hd:=CZ (C:=Run X.C2) (pf:=X.pf) eY (e:=true) (ms:=(List.range' uT as.length).map fun m=>PyData.int (M m)) (m:=M ow) (b:=b.tell bF) PB;have ez:cj b as (some s)=(b.tell bF).tell (gr true []):=by unfold cj;rw[W5];rfl
   rw[ez]at z;exact aX hX fs (by decide) h1 hd (.inr (by rw[hO];rfl)) z
  |none=>
   refine⟨.gj,cj b as none,walk _ _ fun d hd=>.inr (.inl ⟨AY,rfl,rfl,rfl⟩),by show b.told.length+1+1<=_;exact aZ hb VU,fun z=>mV ?_⟩;refine az (W5) ?_;have hd:=CZ (C:=Run X.C2) (pf:=X.pf) eY (e:=false) (ms:=(List.range' uT as.length).map fun m=>PyData.int (M m)) (m:=M ow) (b:=b.tell bF) PB;have ez:cj b as none=(b.tell bF).tell (gr false []):=by unfold cj;rw[W5];rfl
   rw[ez]at z;exact N0 hX fs (by decide) hd z
 |false=>
  have Rr:=tn AY;have SO:isNil (opens 0 as).reverse.reverse=false:=by rw[L4];exact AY
  have Zo:aA (.list (opens 0 as).reverse.reverse):=by rw[L4];exact Kl
  have pick:∀v:Int,0<=v->v<Int.ofNat (opens 0 as).length->∃j i x p,v=Int.ofNat j/\j<=90/\i<=90/\idx (opens 0 as) (Int.ofNat j)=some (lF i (nH x))/\idx (as.map eI) (Int.ofNat i)=some (eI x)/\
    idx ((List.range' uT as.length).map fun m=>PyData.int (M m)) (Int.ofNat i)=some (.int (Int.ofNat p))/\Dn<p/\p<=pend/\GoodC X M (DL n) p pend kL x:=by
   intro v h0 hv;refine bc fun bf=>?_;obtain⟨j,rfl⟩:=Int.eq_ofNat_of_zero_le h0;have hj:j<(opens 0 as).length:=Int.ofNat_lt.mp hv;obtain⟨y,hy⟩:=yV _ _ hj;obtain⟨i,x,h1,h2⟩:=IZ as 0 j y hy;have hi:=k5 h1;obtain⟨p,p1,p2,p3,p4⟩:=gB i x h1;rw[Nat.zero_add]at h2;subst h2;refine bf ?_;refine⟨j,i,x,p,rfl,by exact jG hlen DE hj (jG hlen DE hj (jG hlen DE hj)),by exact aZ hlen hi (aZ hlen hi (aZ hlen hi)),hy,xb eI _ _ _ h1,?_,p1,p3,p4⟩;have:=xb (fun m=>PyData.int (M m)) _ _ _ (xc as.length uT i hi);rw[p2]at this;exact this
  induction o using Option.casesOn with
  |some s=>
   by_cases hz:iA X.pf.gG (cj b as (some s)).ask.asked (Int.ofNat 3)=Int.ofNat 0
   ·obtain⟨w,b',w1,a1⟩:=gO s rfl hE (cj b as (some s)).ask (by show b.told.length+1+1<=_;exact jG W4 h1 hb);refine⟨w,b',walk w b' fun d hd=>.inr (.inr (.inl ⟨s,AY,rfl,hz,w1.at_ (by unfold DL;exact ai hd)⟩)),a1.pre fun z=>mV ?_⟩;have hd:=Lw (C:=Run X.C2) (pf:=X.pf) eY rV (ms:=(List.range' uT as.length).map fun m=>PyData.int (M m)) (m:=M ow) (b:=b.tell bF) (ol:=(opens 0 as).reverse) PB hX.gG SO Zo hz;rw[L4]at hd;exact aX hX fs (by decide) h1 hd (.inr (by rw[hO])) z
   ·obtain⟨v0,v1⟩:=GJ (gG:=X.pf.gG) (a:=(cj b as (some s)).ask.ask.asked) (many:=Int.ofNat (opens 0 as).length) (by show(0:Int)<((opens 0 as).length:Int);omega);refine bc fun bf=>?_;obtain⟨j,i,x,p,ej,hj,hi,VV,Zp,Zq,Jp,Zr,hg⟩:=pick _ v0 v1;obtain⟨w,b',w1,a1⟩:=hg hE (cj b as (some s)).ask.ask (by show b.told.length+1+1<=_;exact jG W4 hb Jp);refine bf ?_;refine⟨w,b',walk w b' fun d hd=>.inr (.inr (.inr (.inl ⟨s,i,j,x,_,AY,rfl,hz,ej,hj,hi,VV,Zp,w1 d (by unfold DL;exact ai hd)⟩))),a1.pre fun z=>mV ?_⟩;have hd:=Lx (C:=Run X.C2) (pf:=X.pf) eY rV (ms:=(List.range' uT as.length).map fun m=>PyData.int (M m)) (m:=M ow) (b:=b.tell bF) (ol:=(opens 0 as).reverse) PB hX.gG SO Zo hz (by rw[xA];exact aZ hlen DE) (by rw[xA];exact ej) (by rw[L4];exact VV) Zq hi hj;rw[L4]at hd;exact aX hX fs (by decide) Jp hd (.inr rfl) z
  |none=>
   refine bc fun bf=>?_;obtain⟨v0,v1⟩:=GJ (gG:=X.pf.gG) (a:=(cj b as none).ask.asked) (many:=Int.ofNat (opens 0 as).length) (by show(0:Int)<((opens 0 as).length:Int);omega);obtain⟨j,i,x,p,ej,hj,hi,VV,Zp,Zq,Jp,Zr,hg⟩:=pick _ v0 v1;obtain⟨w,b',w1,a1⟩:=hg hE (cj b as none).ask (by show b.told.length+1+1<=_;exact jG W4 hb Jp);refine bf ?_;refine⟨w,b',walk w b' fun d hd=>.inr (.inr (.inr (.inr ⟨i,j,x,_,AY,rfl,ej,hj,hi,VV,Zp,w1 d (by unfold DL;exact ai hd)⟩))),a1.pre fun z=>mV ?_⟩;have hd:=Ly (C:=Run X.C2) (pf:=X.pf) eY rV (ms:=(List.range' uT as.length).map fun m=>PyData.int (M m)) (m:=M ow) (b:=b.tell bF) (ol:=(opens 0 as).reverse) PB hX.gG SO Zo (by rw[xA];exact aZ hlen DE) (by rw[xA];exact ej) (by rw[L4];exact VV) Zq hi hj;rw[L4]at hd;exact aX hX fs (by decide) Jp hd (.inr rfl) z
section
variable{C:Cl}{n:Nat}{sv:Bool}
noncomputable def VW:List T:=(P.code dK).take 3
noncomputable def VX:List T:=[.expr (.call cB [(.var af),(.tup [(.c (.str qk))])])]
noncomputable def VY:List T:=[.expr (.call cB [(.var af),(.tup [(.c (.str bB)),(.cmp .nP (.var dp) (.c .none)),(.var dn),(.var dA)])]),.asg (.x aN) (.attr (.var af) aN)]
noncomputable def VZ:List T:=(P.code dK).drop 8
theorem L5:P.code dK=VW++(VX++([.gN [aW] (.sg (.len (.var aC))) sf]++(VY++([.gN [aW] (.sg (.len (.var aC))) qH]++VZ)))):=rfl
theorem RY(hG:iw C)(V0:Oq C){l:Int}{as:List cR}{o:Option (List D)}(qI:as≠[])(hlen:as.length<=3)(ME:∀a∈as,iL a)(hB:∀a∈as,(∀body,uS a=some body->LU n C body)/\uw 0 C sv (pW a))(hO:uw 0 C sv (oL o)):Og (n+1) (Run C) sv dK (.sel l as o):=by
 intro fr rr mr aB av γ Q hp k;have pH:=i7 n;have hr:rr.length+12*BS n<=89601:=by have:=Zb hp.rl;rw[dG]at this;exact ai this
 have hm:mr.length+12*BS n<=89600:=by have:=hp.ml;rw[dG]at this;exact ai this
 have RR:rr.length<=89409:=by exact aZ (qe 12 pH) hr
 have W0:mr.length<=89408:=by exact aZ (qe 12 pH) hm
 have hb1:av+n<=4:=by have:=hp.bl;exact ai this
 have Hd:aB.length+n<=9:=by have:=hp.al;exact ai this
 have V1:bK n=2*BS n+42:=rfl;have FN:as.length*bK n<=6*BS n+126:=by have:=Nat.mul_le_mul_right (bK n) hlen;rw[V1]at this⊢;exact ai this
 show gz (ex G C 60) (P.code dK) [(af,.b 4),(aD,.d (cy (.sel l as o)))] (cS fr rr mr aB 0 av γ []) (fQ Q);refine az (L5) ?_;refine bq fun R hR=>?_;have start:R (DH (cy (.sel l as o)) l (as.map eI) (rM o) (eD mr.length as.length) (mr.length+as.length) []) (cS fr rr (-1:: -1::(List.replicate as.length (-1)++mr)) aB 0 av γ []):=by
  refine hR _ _ ?_;clear hR R;refine bq fun R hR=>?_;refine hG.lay .gi fr rr (-1:: -1::(List.replicate as.length (-1)++mr)) aB 0 av γ _ (by omega) fun h1 e1=>?_;have e1:h1=1:=by rw[e1];rfl
  subst e1;refine hR (DH (cy (.sel l as o)) l (as.map eI) (rM o) (eD mr.length as.length) (mr.length+as.length) []) (cS fr (.gi::rr) (-1:: -1::(List.replicate as.length (-1)++mr)) aB 1 av γ []) ?_;clear hR R;have PC:(-1:: -1::(List.replicate as.length (-1:Int)++mr)).length=mr.length+as.length+2:=by
   simp only[List.length_cons,List.length_append,List.length_replicate];omega
  generalize Zs:(-1:: -1::(List.replicate as.length (-1:Int)++mr))=iT at PC⊢;refine bq fun R hR=>?_;refine js fun F hF=>?_;refine aj (by rw[List.length_map];unfold ah;omega) ?_;refine aj (by rw[List.length_map];unfold ah;omega) ?_;refine hF _ _ _ ?_;rw[mU,List.length_map];have V2:=AW as 0 iT.length;have Zt:=FO as 0 (Row.gi::rr).length iT;have V2:(et 0 iT.length as).length<=12:=by exact aZ (qe 4 hlen) V2
  refine IY (x:=cy (.sel l as o)) (l:=l) (other:=rM o) (ms:=eD mr.length as.length) (o:=mr.length+as.length) V0 as [] [] (.gi::rr) iT rfl (.inl rfl) (by rw[List.length_nil];exact ai hlen) (by rw[List.length_cons];exact aZ (qe 4 hlen) RR) (jG (qe 2 hlen) W0 (il PC)) fun aG jc=>?_;obtain⟨v,rfl⟩:∃v,aG=[(aW,.d v)]:=by
   rcases jc with⟨h,_⟩|h
   ·exact absurd h qI
   ·exact h
  clear jc;refine hR _ _ ?_;clear hF F hR R;refine az (List.length_nil) ?_;have hM3:=t8 as 0 (Row.gi::rr).length iT;generalize Zu:nJ 0 (Row.gi::rr).length iT as=Jo at Zt hM3⊢;generalize RZ:et 0 iT.length as=qJ at V2⊢;refine bq fun R hR=>?_;have Ox:Jo.length=mr.length+as.length+2+as.length:=by rw[Zt,PC]
  have h3b:Jo.length+12*BS n<=89608:=by exact jG (qe 2 hlen) hm (il Ox)
  have HQ:rr.length+1+qJ.length+12*BS n<=89614:=by exact aZ hr V2
  clear Zt hr hm;have Zv:bV M0 (.select o.isSome (List.range' mr.length as.length) (mr.length+as.length))=.tuple [.str bB,.bool o.isSome,.list (eD mr.length as.length),.int (Int.ofNat (mr.length+as.length))]:=by
   show PyData.tuple [.str bB,.bool o.isSome,.list ((List.range' mr.length as.length).map fun m=>PyData.int (M0 m)),.int (M0 (mr.length+as.length))]=_;rw[<-tm];rfl
  have lay:=hG.lay (.select o.isSome (List.range' mr.length as.length) (mr.length+as.length)) fr (qJ++Row.gi::rr) Jo aB 1 av γ;rw[Zv]at lay;have L6:(qJ++Row.gi::rr).length=rr.length+1+qJ.length:=by rw[List.length_append,List.length_cons];omega
  have next:R (DH (cy (.sel l as o)) l (as.map eI) (rM o) (eD mr.length as.length) (mr.length+as.length) [(aW,.d v),(aN,.d (.int 0))]) (cS fr (.select o.isSome (List.range' mr.length as.length) (mr.length+as.length)::(qJ++Row.gi::rr)) Jo aB 0 av γ []):=by
   refine hR _ _ ?_;clear hR R;refine bq fun R hR=>?_;refine js fun F hF=>?_;refine aj (by rw[List.length_map];unfold ah;omega) ?_;refine aj (by rw[List.length_map];unfold ah;omega) ?_;refine hF _ _ _ ?_;rw[mU,List.length_map];refine Ov (x:=cy (.sel l as o)) (l:=l) (other:=rM o) (o:=mr.length+as.length) (uT:=mr.length) (kk:=as.length) (RW:=mr) hG (ai Hd) (fun L3 gL q1 q2 q3=>⟨by exact aZ (xq V1) q1,by exact aZ (xq V1) q2,hp.sv,by omega,fun p rA=>⟨(hp.ac p rA).1,Nat.lt_of_lt_of_le (hp.ac p rA).2 q3⟩,by omega⟩) as [] [(aW,.d v),(aN,.d (.int 0))] (.select o.isSome (List.range' mr.length as.length) (mr.length+as.length)::(qJ++Row.gi::rr)) Jo γ rfl (by rw[List.length_nil];omega) (by omega) (.inl ⟨v,rfl⟩) hB (by rw[List.length_cons,L6];exact jG (qe 2 (il V1)) FN HQ) (jG (qe 2 (il V1)) FN h3b) (ai (xq Ox)) (ai (xq Ox)) fun c uz MG aaI hr4 xa=>?_;refine hR _ _ ?_;clear hF F hR R;have b1:c.length<=6*BS n+126:=Nat.le_trans xa.len FN;have b2:uz.length<=Jo.length+(6*BS n+126):=Nat.le_trans xa.jX (Nat.add_le_add_left FN _);have b3:=xa.keep;have Zw:=b3.1;have b4:mr.length+as.length+2<=uz.length:=by exact aZ (xq Ox) Zw
   have b5:uz.length+6*BS n<=89740:=by exact aZ h3b b2
   have b6:uz.length<=89644:=by exact aZ (qe 6 pH) b5
   rw[List.length_nil,Nat.add_zero]at b3;have s6:(c++Row.select o.isSome (List.range' mr.length as.length) (mr.length+as.length)::(qJ++Row.gi::rr)).length=rr.length+1+qJ.length+1+c.length:=by
    rw[List.length_append,List.length_cons,L6];omega
   have b7:rr.length+1+qJ.length+1+c.length<=89650:=by exact jG (qe 6 pH) HQ b1
   have b8:uz.length<=mr.length+(6*BS n+134):=by exact jG (qe 2 hlen) (il Ox) b2
   clear b2 b5;generalize hr5:c++Row.select o.isSome (List.range' mr.length as.length) (mr.length+as.length)::(qJ++Row.gi::rr)=Bd at s6⊢;have tail:∀K:KV,(∀eK yW L7 Zx,qF 0 (2*BS 0) (oL o) aB av Bd (eS uz (mr.length+as.length) Bd.length) eK yW->K (.d .none) (cS fr (eK++Bd) yW aB 0 av L7 Zx))->C bW [.b 4,.d (.list (oL o))] (cS fr Bd (eS uz (mr.length+as.length) Bd.length) aB 0 av MG []) K:=fun K hK=>
    hO fr Bd (eS uz (mr.length+as.length) Bd.length) aB av MG K ⟨by rw[s6];show _+74<=_;exact ai b7,by rw[aE];show _+74<=_;exact ai b6,hp.sv,by exact ai hb1,fun p rA=>⟨(hp.ac p rA).1,by rw[aE];have:=(hp.ac p rA).2;exact aZ b4 this⟩,by exact ai Hd⟩ hK
   have fin:∀eK yW L7,qF 0 (2*BS 0) (oL o) aB av Bd (eS uz (mr.length+as.length) Bd.length) eK yW->Q (.d .none) (cS fr (eK++Bd) (eS yW (mr.length+as.length+1) (eK++Bd).length) aB 0 av L7 []):=by
    intro eK yW L7 hP;have p1:eK.length<=32:=hP.len;have p2:=hP.jX;have p3:=hP.keep;have Oy:=p3.1;rw[aE]at p2 Oy;have p2:yW.length<=uz.length+32:=p2;have p4:mr.length+as.length+2<=yW.length:=Nat.le_trans b4 Oy;have en:eK++Bd=(eK++(c++([Row.select o.isSome (List.range' mr.length as.length) (mr.length+as.length)]++(qJ++[Row.gi]))))++rr:=by
     rw[<-hr5];simp
    have el:(eK++Bd).length=rr.length+1+qJ.length+1+c.length+eK.length:=by rw[List.length_append,s6];omega
    have eln:rr.length+(eK++(c++([Row.select o.isSome (List.range' mr.length as.length) (mr.length+as.length)]++(qJ++[Row.gi])))).length=rr.length+1+qJ.length+1+c.length+eK.length:=by
     simp only[List.length_append,List.length_cons,List.length_nil];omega
    have kk:=k (eK++(c++([Row.select o.isSome (List.range' mr.length as.length) (mr.length+as.length)]++(qJ++[Row.gi])))) (eS yW (mr.length+as.length+1) (eK++Bd).length) L7 [] ⟨by rw[dG];simp only[List.length_append,List.length_cons,List.length_nil];exact uB V2 b1 p1 (DJ (6*BS n+200) (2)),by rw[aE,dG];exact jG b8 p2 (DJ (6*BS n+200) (2)),?_,by
     rw[aE];refine(hP.FD).app (((xa.W2 (ai (xq Ox))).mono (by omega)).app (jx.app (a:=[Row.select o.isSome (List.range' mr.length as.length) (mr.length+as.length)]) ⟨⟨⟨fun q hq=>?_,by rw[List.length_range'];omega⟩,by exact ai p4⟩,trivial⟩ (jx.app (b:=[Row.gi]) ?_ ⟨trivial,trivial⟩)))
     ·have:=List.mem_range'_1.mp hq;exact aZ p4 this.2
     ·refine Je (RZ) ?_;exact Oo as 0 iT.length (uB (il PC) (xq Ox) Zw Oy),fun X M hX hF hM=>?_⟩
    ·rw[<-en]at kk;exact kk
    ·refine iS.set ⟨by exact ai p4,fun j hj=>?_⟩ _ (by omega) (ai p4);refine az (p3.2 j (by rw[aE];exact aZ b4 hj)) ?_;refine az (dH _ (ai b4) (aZ b4 hj)) ?_;refine az (if_neg (by exact Nat.ne_of_gt (ai hj))) ?_;refine az (b3.2 j (aZ (xq Ox) hj) (by exact .inl (ai hj))) ?_;refine az (hM3.2 j (aZ (xq PC) hj)) ?_;refine Je (Zs) ?_;refine az (ju _ (by simp only[List.length_cons,List.length_append,List.length_replicate];exact ai hj)) ?_;refine az (ju _ (by simp only[List.length_append,List.length_replicate];exact ai hj)) ?_;have rep:∀(q:Nat),f9 (List.replicate q (-1:Int)++mr) j=f9 mr j:=by
      intro q
      induction q with
      |zero=>rfl
      |succ q ih=>
       refine az (List.replicate_succ) ?_;refine az (List.cons_append) ?_;refine az (ju _ (by rw[List.length_append];exact ai hj)) ?_;exact ih
     exact rep _
    ·refine az (eln) ?_;obtain⟨fA,fB⟩:=cw hF;obtain⟨fC,fD⟩:=cw fA;obtain⟨fE,fG⟩:=cw fC;obtain⟨fH,fI⟩:=cw fE;have w1:rr.length+(qJ++[Row.gi]).length=rr.length+1+qJ.length:=by simp only[List.length_append,List.length_cons,List.length_nil];omega
     have w2:rr.length+([Row.select o.isSome (List.range' mr.length as.length) (mr.length+as.length)]++(qJ++[Row.gi])).length=rr.length+1+qJ.length+1:=by simp only[List.length_append,List.length_cons,List.length_nil];omega
     have w3:rr.length+(c++([Row.select o.isSome (List.range' mr.length as.length) (mr.length+as.length)]++(qJ++[Row.gi]))).length=rr.length+1+qJ.length+1+c.length:=by simp only[List.length_append,List.length_cons,List.length_nil];omega
     rw[w1]at fG;rw[w2]at fD;rw[w3]at fB;have Zn:=eW hX fG.2;have Zn:rr.length+1+qJ.length<90000:=Zn;have mo:M (mr.length+as.length)=Int.ofNat (rr.length+1+qJ.length+1+c.length):=by
      have h:=hM (mr.length+as.length) (by omega) (by rw[aE];exact ai p4);rw[dH _ (ai p4) (ai p4),if_neg (by exact Nat.ne_of_gt (by omega)),p3.2 _ (by rw[aE];exact ai b4),dH _ (ai b4) (by omega),if_pos rfl,s6]at h;exact h.symm
     have Zy:M (mr.length+as.length+1)=Int.ofNat (rr.length+1+qJ.length+1+c.length+eK.length):=by
      have:=LV hM (by omega) (ai p4);rw[this,el];rfl
     have hM6:lN M (mr.length+as.length+2) yW:=qG (oV hM (by omega)) (by omega) (by omega);have VM:lN M (mr.length+as.length+2) uz:=qG (uQ p3 hM6) (by omega) (by omega);have Zz:lN M (mr.length+as.length+2) Jo:=fun m q1 q2=>by
      refine Je (b3.2 m q2 (by exact .inr (ai q1))) ?_;exact VM m q1 (aZ Zw q2)
     have Fs:(Row.gi::rr).length=rr.length+1:=rfl;have ZA:(Row.select o.isSome (List.range' mr.length as.length) (mr.length+as.length)::(qJ++Row.gi::rr)).length=rr.length+1+qJ.length+1:=by rw[List.length_cons,L6]
     have PJ:rr.length+1+qJ.length+1+c.length+eK.length<=90000:=by exact aZ b7 p1
     refine Ow (n:=n) (a:=rr.length) (Dn:=rr.length+1+qJ.length) (pO:=rr.length+1+qJ.length+1+c.length) (pend:=rr.length+1+qJ.length+1+c.length+eK.length) (ow:=mr.length+as.length) (uT:=mr.length) (m2:=0) hX qI hlen ME fH.2 (fun b z=>?_) fG.2 (by omega) mo (by omega) (by omega) PJ (fun s hs=>?_) (fun i x hx=>?_)
     ·have ZC:gH X.pf.R M (rr.length+1) (et 0 iT.length as):=by rw[RZ];exact fI
      have:=RT (b:=b) hX as 0 (rr.length+1) iT [] ME (ai hlen) (by rw[List.length_nil];exact ai hlen) ZC (by rw[PC,<-Fs,Zu];exact Zz);rw[RZ,List.append_nil]at this;exact this z
     ·subst hs;have g:=hP.good X M hX (by rw[s6];exact fB) (oV hM6 (by rw[aE];omega));rw[s6]at g;exact g
     ·obtain⟨p,q1,q2,q3⟩:=xa.good i x hx;have MD:=k5 hx;rw[ZA]at q1 q3;rw[List.length_nil,Nat.add_zero]at q2;obtain⟨q4,q5⟩:=q3 X M hX fD (oV VM (ai (xq Ox))) _ Zy (by omega) PJ;refine⟨p,by exact ai q1,?_,q4,q5⟩;have h:=hM (mr.length+i) (by omega) (by rw[aE];exact aZ p4 MD);rw[dH _ (by omega) (aZ p4 MD),if_neg (by exact Nat.ne_of_gt (ai MD)),p3.2 _ (by rw[aE];exact aZ b4 MD),dH _ (by omega) (aZ b4 MD),if_neg (by exact Nat.ne_of_gt (ai MD)),q2]at h;exact h.symm
   induction o using Option.casesOn with
   |none=>
    rcases hr4 with⟨v4,rfl⟩|⟨a0,g0,k0,d0,s0,rfl⟩
    all_goals
     refine hG.put fr Bd uz aB 0 av MG (mr.length+as.length) 0 _ (aZ b7 (il s6)) (ai b6) (by omega) ?_;refine tail _ fun eK yW L7 Zx hP=>?_;have p1:eK.length<=32:=hP.len;have p2:=hP.jX;have Oy:=hP.keep.1;rw[aE]at p2 Oy;have p2:yW.length<=uz.length+32:=p2;have p4:mr.length+as.length+2<=yW.length:=Nat.le_trans b4 Oy;refine hG.put fr (eK++Bd) yW aB 0 av L7 (mr.length+as.length+1) 0 _ (by rw[List.length_append];exact jG b7 (il s6) p1) (aZ b6 p2) (by omega) ?_;exact fin eK yW L7 hP
   |some s=>
    rcases hr4 with⟨v4,rfl⟩|⟨a0,g0,k0,d0,s0,rfl⟩
    all_goals
     refine hG.put fr Bd uz aB 0 av MG (mr.length+as.length) 0 _ (aZ b7 (il s6)) (ai b6) (by omega) ?_;refine tail _ fun eK yW L7 Zx hP=>?_;have p1:eK.length<=32:=hP.len;have p2:=hP.jX;have Oy:=hP.keep.1;rw[aE]at p2 Oy;have p2:yW.length<=uz.length+32:=p2;have p4:mr.length+as.length+2<=yW.length:=Nat.le_trans b4 Oy;refine hG.put fr (eK++Bd) yW aB 0 av L7 (mr.length+as.length+1) 0 _ (by rw[List.length_append];exact jG b7 (il s6) p1) (aZ b6 p2) (by omega) ?_;exact fin eK yW L7 hP
  induction o using Option.casesOn with
  |none=>
   refine lay _ (aZ HQ (il L6)) fun h1 e1=>?_;have e1:h1=0:=by rw[e1];rfl
   subst e1;exact next
  |some s=>
   refine lay _ (aZ HQ (il L6)) fun h1 e1=>?_;have e1:h1=0:=by rw[e1];rfl
   subst e1;exact next
 clear V0 ME hB hO FN k;rcases as with _|⟨a,_|⟨b,_|⟨c,_|⟨d,as⟩⟩⟩⟩
 ·exact absurd rfl qI
 ·refine hG.new fr rr mr aB 0 av γ _ (by omega) ?_;refine hG.new fr rr (-1::mr) aB 0 av γ _ (by rw[List.length_cons];exact ai hm) ?_;refine hG.new fr rr (-1:: -1::mr) aB 0 av γ _ (by simp only[List.length_cons];exact ai hm) ?_;exact start
 ·refine hG.new fr rr mr aB 0 av γ _ (by omega) ?_;refine hG.new fr rr (-1::mr) aB 0 av γ _ (by rw[List.length_cons];exact ai hm) ?_;refine hG.new fr rr (-1:: -1::mr) aB 0 av γ _ (by simp only[List.length_cons];exact ai hm) ?_;refine hG.new fr rr (-1:: -1:: -1::mr) aB 0 av γ _ (by simp only[List.length_cons];exact ai hm) ?_;exact start
 ·refine hG.new fr rr mr aB 0 av γ _ (by omega) ?_;refine hG.new fr rr (-1::mr) aB 0 av γ _ (by rw[List.length_cons];exact ai hm) ?_;refine hG.new fr rr (-1:: -1::mr) aB 0 av γ _ (by simp only[List.length_cons];exact ai hm) ?_;refine hG.new fr rr (-1:: -1:: -1::mr) aB 0 av γ _ (by simp only[List.length_cons];exact ai hm) ?_;refine hG.new fr rr (-1:: -1:: -1:: -1::mr) aB 0 av γ _ (by simp only[List.length_cons];exact ai hm) ?_;exact start
 ·exact absurd hlen (by simp)
end
noncomputable def ix:SF->Int
 |.call l _=>l
 |.acc l _ _ _ _=>l
 |.rN l _ _ _=>l
 |.pS l _ _ _ _ _ _=>l
 |.sel l _ _=>l
 |.block l _=>l
 |.dr l _ _=>l
 |.abort l _=>l
 |.cK l _ _ _=>l
 |.ret l=>l
 |.null l=>l
theorem Oz(f:SF):∃ws ys,cy f=.tuple (.str ws::.int (ix f)::ys):=by rcases f with _|_<;>exact⟨_,_,rfl⟩
noncomputable def R1(X:PX)(M:Nat->Int)(D0 a a':Nat)(kL:Option (Nat×Nat))(f:SF):Prop:=lJ M kL a'->∀b,b.told.length<=a->∃w b',fy X.pf D0 (cy f) (b.tell (stepT (ix f))) w b'/\After X M a a' kL b w b'
noncomputable def G3(n N:Nat)(f:SF):=Piece (fun X M a a' kL=>R1 X M (DL n-1) a a' kL f) N
noncomputable def ZD(n:Nat)(C:Cl)(sv:Bool)(f:SF):Prop:=∀(fr:Fr) (rr:List Row) (mr:List Int) (aB:List (Nat×Nat)) (av γ:Nat) (Q:KV),Pre n sv (.step 0::rr) mr aB av->
 (∀new gL gE τ,G3 n (BS n) f aB av rr mr new gL->Q (.d .none) (cS fr (new++rr) gL aB 0 av gE τ))->C jP [.b 4,.d (cy f)] (cS fr rr mr aB 0 av γ []) Q
theorem V3{C:Cl}{n:Nat}{sv:Bool}{f:SF}(hG:iw C)(V4:Ln (ix f))(hX:uv n C sv f):ZD n (Run C) sv f:=by
 intro fr rr mr aB av γ Q hp k;have pH:=i7 n;have hr:=hp.rl;rw[List.length_cons]at hr;have go:∀K:KV,(∀new gL gE τ,AN n (BS n-1) f aB av (.step (ix f)::rr) mr new gL->K (.d .none) (cS fr (new++.step (ix f)::rr) gL aB 0 av gE τ))->C (fnOf f) [.b 4,.d (cy f)] (cS fr (.step (ix f)::rr) mr aB 0 av γ []) K:=
  fun K hK=>hX fr (.step (ix f)::rr) mr aB av γ K ⟨by rw[List.length_cons];omega,hp.ml,hp.sv,hp.bl,hp.ac,hp.al⟩ hK
 have fin:∀new gL gE τ,AN n (BS n-1) f aB av (.step (ix f)::rr) mr new gL->Q (.d .none) (cS fr (new++.step (ix f)::rr) gL aB 0 av gE τ):=by
  intro new gL gE τ hP;have p1:=hP.len;have p2:=hP.jX;have kk:=k (new++[.step (ix f)]) gL gE τ ⟨by rw[List.length_append,List.length_singleton];omega,by exact aZ p2 (Nat.sub_le (BS n) (1)),hP.keep,hP.FD.app (b:=[.step (ix f)]) ⟨trivial,trivial⟩,fun X M hX' hF hM hE b hb=>?_⟩
  ·rw[List.append_assoc]at kk;exact kk
  ·obtain⟨f1,f2⟩:=cw hF;have e1:rr.length+(new++[Row.step (ix f)]).length=(Row.step (ix f)::rr).length+new.length:=by simp only[List.length_append,List.length_cons,List.length_nil];omega
   rw[e1]at hE⊢;obtain⟨w,b',w1,a1⟩:=hP.good X M hX' f2 hM hE (b.tell (stepT (ix f))) (by show b.told.length+1<=rr.length+1;exact ai hb);exact⟨w,b',w1,a1.pre fun z=>Ry hX' V4 f1.2 hb z⟩
 have lay:=hG.lay (.step (ix f)) fr rr mr aB 0 av γ;rcases f with _|_
 all_goals
  refine lay _ (ai hr) fun h1 e1=>?_;have e1:h1=0:=by rw[e1];rfl
  subst e1;refine go _ fun new gL gE τ hP=>?_;exact fin new gL gE [] hP
noncomputable def R5(pf:PF)(D0:Nat)(ss:List D)(b:Bk)(w:Way)(b':Bk):Prop:=∀d,D0<=d->Chain (Cd G P d) pf ss b w b'
noncomputable def R6(X:PX)(M:Nat->Int)(D0 a a':Nat)(kL:Option (Nat×Nat))(ss:List D):Prop:=lJ M kL a'->∀b,b.told.length<=a->∃w b',R5 X.pf D0 ss b w b'/\After X M a a' kL b w b'
noncomputable def OA(n N:Nat)(ss:List D):=Piece (fun X M a a' kL=>R6 X M (DL n-1) a a' kL ss) N
noncomputable def AZ:List T:=[.expr (.call jP [(.var af),(.var aD)])]
noncomputable def xd(x:D)(rest:ak):ak:=(af,.b 4)::(bo,.d x)::rest
theorem OB{C:Cl}{n:Nat}{sv:Bool}{x:D}{fr:Fr}{aB:List (Nat×Nat)}{av:Nat}{rrB RW:Nat}{Q:KF}(hsv:sv=true->aB≠[])(CL:av+n<=5)(WZ:∀p∈aB,p.2<=av/\p.1<RW)(pV:aB.length+n<=10):∀(fs:List SF) (rest:ak) (rr:List Row) (mr:List Int) (γ:Nat),(rest=[]\/∃v,rest=[(aD,.d v)])->
  (∀f∈fs,Ln (ix f)/\ZD n C sv f)->rr.length+fs.length*BS n+2*BS n+1<=90000->mr.length+fs.length*BS n+2*BS n<=90000->RW<=mr.length->
  (∀new gL gE aG,(aG=[]\/∃v,aG=[(aD,.d v)])->OA n (fs.length*BS n) (fs.map cy) aB av rr mr new gL->Q .next (xd x aG) (cS fr (new++rr) gL aB 0 av gE []))->
  forL (ex G C 59) [aD] AZ none (fs.map cy) (xd x rest) (cS fr rr mr aB 0 av γ []) Q:=by
 intro l0
 induction l0 with
 |nil=>
  intro rest rr mr γ hr _ h1 h2 h3 k;exact k [] mr γ rest hr ⟨Nat.zero_le _,Nat.le_add_right _ _,iS.refl _,trivial,fun X M hX hF hM hE b hb=>⟨.done,b,fun d hd=>⟨rfl,rfl⟩,hb,fun z=>z⟩⟩
 |cons f fs ih=>
  intro rest rr mr γ hr hC h1 h2 h3 k;have e1:(f::fs).length*BS n=fs.length*BS n+BS n:=Nat.succ_mul _ _;rw[e1]at h1 h2;have FP:=hC f List.mem_cons_self;have V4:=FP.1;have kI:=FP.2;clear FP;have pH:=i7 n;refine az (List.map_cons) ?_;refine az (dm) ?_;have go:∀R:ak->St->Prop,(∀new gL gE,G3 n (BS n) f aB av rr mr new gL->R (xd x [(aD,.d (cy f))]) (cS fr (new++rr) gL aB 0 av gE []))->bind1 [aD] (cy f) (xd x rest) fun d9=>gz (ex G C 59) AZ d9 (cS fr rr mr aB 0 av γ []) (wo R Q):=by
   intro R hR;have hp:Pre n sv (.step 0::rr) mr aB av:=⟨by rw[List.length_cons];exact ai h1,by exact ai h2,hsv,CL,fun p hp=>⟨(WZ p hp).1,by have:=(WZ p hp).2;exact aZ h3 this⟩,pV⟩;have call:=fun K hK=>kI fr rr mr aB av γ K hp hK;generalize cy f=y at call hR⊢;rcases hr with rfl|⟨v,rfl⟩
   all_goals
    refine call _ fun new gL gE τ hP=>?_;exact hR new gL gE hP
  refine go _ fun c1 Jn VS hP=>?_;have p1:=hP.len;have p2:=hP.jX;have p3:=hP.keep;refine ih [(aD,.d (cy f))] (c1++rr) Jn VS (.inr ⟨_,rfl⟩) (fun y hy=>hC y (List.mem_cons_of_mem _ hy)) (by rw[List.length_append];exact aZ h1 p1) (aZ h2 p2) (by have:=p3.1;exact aZ h3 this) fun c2 iT oW gV um V5=>?_;have q1:=V5.len;have q2:=V5.jX;have q3:=V5.keep;rw[<-List.append_assoc];refine k (c2++c1) iT oW gV um ⟨by rw[e1,List.length_append];exact aZ p1 q1,by rw[e1];exact aZ p2 q2,p3.trans q3,V5.FD.app (hP.FD.mono q3.1),fun X M hX hF hM hE b hb=>?_⟩;have R7:=cw hF;have f1:=R7.1;have f2:=R7.2;clear R7;have el:(c1++rr).length=rr.length+c1.length:=by rw[List.length_append];omega
  have e2:rr.length+(c2++c1).length=rr.length+c1.length+c2.length:=by rw[List.length_append];omega
  rw[e2]at hE⊢;have PG:lJ M (tq aB av) (rr.length+c1.length):=fun m q he=>by
   refine bc fun bf=>?_;obtain⟨p,e1,e2,e3⟩:=hE m q he;refine bf ?_;exact⟨p,e1,by exact ai e2,e3⟩
  refine bc fun bf=>?_;obtain⟨w1,b1,o1,a1⟩:=hP.good X M hX f1 (uQ q3 hM) PG b hb;obtain⟨ws,ys,ef⟩:=Oz f;refine bf ?_;have R8:b.told.length<=99000:=by exact aZ h1 hb
  induction w1 using Way.casesOn with
  |done=>
   have g2:=V5.good X M hX (by rw[el];exact f2) (oV hM p3.1);rw[el]at g2;refine bc fun bf=>?_;obtain⟨w,b',o2,a2⟩:=g2 hE b1 a1.1;refine bf ?_;exact⟨w,b',fun d hd=>⟨R8,ix f,ws,ys,ef,V4,.done,b1,o1 d hd,o2 d hd⟩,a2.pre a1.2⟩
  |left=>exact⟨.left,b1,fun d hd=>⟨R8,ix f,ws,ys,ef,V4,.left,b1,o1 d hd,rfl,rfl⟩,a1⟩
  |gj=>exact⟨.gj,b1,fun d hd=>⟨R8,ix f,ws,ys,ef,V4,.gj,b1,o1 d hd,rfl,rfl⟩,a1⟩
theorem L8{C:Cl}{n:Nat}{sv:Bool}{fs:List SF}(hlen:fs.length<=2)(hC:∀f∈fs,Ln (ix f)/\ZD n C sv f):uw n (Run C) sv (fs.map cy):=by
 intro fr rr mr aB av γ Q hp k;have pH:=i7 n;have hr:=hp.rl;have hm:=hp.ml;have FN:fs.length*BS n<=2*BS n:=Nat.mul_le_mul_right _ hlen;show gz (ex G C 60) [.gN [aD] (.var bo) AZ] (xd (.list (fs.map cy)) []) (cS fr rr mr aB 0 av γ []) (fQ Q);refine js fun F hF=>?_;refine aj (by rw[List.length_map];unfold ah;omega) ?_;refine hF _ _ _ ?_;refine OB (x:=.list (fs.map cy)) (rrB:=0) (RW:=mr.length) hp.sv hp.bl hp.ac hp.al fs [] rr mr γ (.inl rfl) hC (aZ hr FN) (aZ hm FN) (Nat.le_refl _) fun new gL gE aG jc hP=>?_;have p1:=hP.len;have p2:=hP.jX;refine k new gL gE [] ⟨by exact aZ FN p1,by exact aZ FN p2,hP.keep,hP.FD,fun X M hX hF' hM hE b hb=>?_⟩;refine bc fun bf=>?_;obtain⟨w,b',o1,a1⟩:=hP.good X M hX hF' hM hE b hb;refine bf ?_;refine⟨w,b',fun d hd=>?_,a1⟩
 induction d using Nat.casesAuxOn with
 |zero=>exact absurd hd (by unfold DL;exact Nat.not_le_of_lt (by omega))
 |succ d=>exact N6 (jy (by unfold DL at hd;exact ai hd)) (by rw[List.length_map];omega) (o1 d (by unfold DL at hd⊢;omega))
theorem R9:∀{d:Nat},1<=d->LR (Cd G P d)
 |0,h=>absurd h (by decide)
 |_+1,_=>RL
theorem L9:∀{d:Nat},2<=d->LS (Cd G P d)
 |0,h=>absurd h (by decide)
 |_+1,h=>RN (R9 (ai h))
theorem V6:∀{d:Nat},9<=d->Oq (Cd G P d)
 |0,h=>absurd h (by decide)
 |_+1,h=>VO (jz (ai h))
noncomputable def GenAt(L:LP)(n D0:Nat):Prop:=∀d,D0<=d->∀sv ss,L sv ss->uw n (Cd G P d) sv ss
theorem OC{L L0:LP}{n d:Nat}{sv:Bool}{f:SF}(hd:12<=d)(ho:Jm L L0 sv f)(hL:∀sv b,¬L sv b)(ZE:∀sv b,¬L0 sv b):Ln (ix f)/\uv n (Cd G P d) sv f:=by
 induction d using Nat.casesAuxOn with
 |zero=>omega
 |succ d=>
  induction f using SF.casesOn with
  |call l c=>exact⟨ho.1,GX (jz (ai hd)) ho.2⟩
  |acc l e aP fm b=>exact absurd ho.2.2 (hL _ _)
  |rN l c b o=>exact absurd ho.2.2.1 (hL _ _)
  |pS l c b l' t u o=>exact absurd ho.2.2.1 (hL _ _)
  |sel l a o=>
   obtain⟨h1,h2,h3,h4,h5⟩:=ho
   induction a using List.casesOn with
   |nil=>exact absurd rfl h2
   |cons a0 a'=>
    have:=h4 a0 List.mem_cons_self;cases a0 with
    |acc g l e aP fm b r=>exact absurd this.2.2.2 (ZE _ _)
    |dr g l t u r=>exact absurd this.2 (ZE _ _)
    |term g r=>exact absurd this (ZE _ _)
  |block l b=>exact absurd ho.2 (hL _ _)
  |dr l t u=>exact⟨ho.1,Di (jz (ai hd)) ho.2⟩
  |abort l ts=>exact⟨ho.1,Dj (jz (ai hd)) ho.2.1 ho.2.2⟩
  |cK l q aP u=>exact⟨ho.2.1,w5 (jz (by omega)) (uP (ai hd)) ho.1 ho.2.2⟩
  |ret l=>exact⟨ho.2,LO (uP (ai hd)) ho.1⟩
  |null l=>exact⟨ho,GW⟩
theorem V7{m d:Nat}{sv:Bool}{f:SF}{Dm:Nat}(SR:12<=Dm)(hd:Dm+5<=d)(ih:GenAt (SL m) m Dm)(SS:GenAt Nz 0 Dm)(ho:Jm (SL m) Nz sv f):Ln (ix f)/\uv (m+1) (Cd G P d) sv f:=by
 obtain⟨d,rfl⟩:∃e,d=e+3:=⟨d-3,by exact(Nat.sub_add_cancel (ai hd)).symm⟩;have OD:iw (Cd G P (d+2)):=jz (aZ SR hd);have V8:iw (Cd G P (d+1)):=jz (aZ SR hd);have hG0:iw (Cd G P d):=jz (aZ SR hd)
 induction f using SF.casesOn with
 |call l c=>exact⟨ho.1,GX OD ho.2⟩
 |acc l e aP fm b=>exact⟨ho.1,RP OD ho.2.1 (w6 (L9 (ai hd)) V8 (ih (d+1) (ai hd) true b ho.2.2))⟩
 |rN l c b o=>exact⟨ho.1,tr OD trivial (Ol V8 ho.2.1 (ih (d+1) (ai hd) sv b ho.2.2.1) (ih (d+1) (ai hd) sv o ho.2.2.2))⟩
 |pS l c b l' t u o=>exact⟨ho.1,tr OD trivial (Om V8 (Nat.zero_le m) ho.2.1 ho.2.2.2.1 (ih (d+1) (by omega) sv b ho.2.2.1) (SS (d+1) (by omega) sv o ho.2.2.2.2))⟩
 |sel l a o=>
  obtain⟨h1,h2,h3,h4,h5⟩:=ho;refine⟨h1,tr OD h2 (RY V8 (V6 (aZ SR hd)) h2 h3 (fun x hx=>?_) (fun x hx=>?_) ?_)⟩
  ·have:=h4 x hx
   induction x using cR.casesOn with
   |acc g l e aP fm b r=>exact this.2.1
   |dr g l t u r=>exact this.1
   |term g r=>trivial
  ·have:=h4 x hx
   induction x using cR.casesOn with
   |acc g l e aP fm b r=>
    refine⟨fun body hb=>?_,SS (d+1) (by omega) sv r this.2.2.2⟩;rcases hb with _|_;exact w6 (L9 (ai hd)) hG0 (ih d (ai hd) true b this.2.2.1)
   |dr g l t u r=>exact⟨fun body hb=>(by rcases hb with _|_),SS (d+1) (by omega) sv r this.2⟩
   |term g r=>exact⟨fun body hb=>(by rcases hb with _|_),SS (d+1) (by omega) sv r this⟩
  ·induction o using Option.casesOn with
   |none=>exact SS (d+1) (by omega) sv [] ⟨by simp,fun x hx=>by rcases hx with _|_⟩
   |some s=>exact SS (d+1) (by omega) sv s (h5 s rfl)
 |block l b=>exact⟨ho.1,L1 OD (LZ V8 (LY (by omega)) (.inl rfl) (ih (d+1) (by omega) sv b ho.2))⟩
 |dr l t u=>exact⟨ho.1,Di OD ho.2⟩
 |abort l ts=>exact⟨ho.1,Dj OD ho.2.1 ho.2.2⟩
 |cK l q aP u=>exact⟨ho.2.1,w5 OD (uP (aZ SR hd)) ho.1 ho.2.2⟩
 |ret l=>exact⟨ho.2,LO (uP (aZ SR hd)) ho.1⟩
 |null l=>exact⟨ho,GW⟩
theorem G4{L L0:LP}{sv:Bool}{ss:List D}(h:Ny L L0 sv ss):∃fs:List SF,ss=fs.map cy/\fs.length<=2/\∀f∈fs,Jm L L0 sv f:=by
 obtain⟨h1,h2⟩:=h
 match ss,h1,h2 with
 |[],_,_=>exact⟨[],rfl,by simp,fun f hf=>by rcases hf with _|_⟩
 |[x],_,h2=>
  obtain⟨f,ho,rfl⟩:=h2 x (by simp);exact⟨[f],rfl,by simp,fun g hg=>by rw[List.mem_singleton]at hg;exact hg▸ho⟩
 |[x,y],_,h2=>
  obtain⟨f,ho,rfl⟩:=h2 x (by simp);obtain⟨g,SN,rfl⟩:=h2 y (by simp);refine⟨[f,g],rfl,by simp,fun h hh=>?_⟩;rw[List.mem_cons,List.mem_singleton]at hh;rcases hh with rfl|rfl<;>assumption
 |_::_::_::_,h,_=>exact absurd h (by simp)
noncomputable def GD:Nat->Nat
 |0=>20
 |n+1=>GD n+10
theorem V9:GenAt Nz 0 20:=by
 intro d hd sv ss h;obtain⟨fs,rfl,hl,ho⟩:=G4 h;obtain⟨d,rfl⟩:∃e,d=e+2:=⟨d-2,by exact(Nat.sub_add_cancel (ai hd)).symm⟩;refine L8 hl fun f hf=>?_;obtain⟨h1,h2⟩:=OC (n:=0) (d:=d) (ai hd) (ho f hf) (fun _ _ h=>h) (fun _ _ h=>h);exact⟨h1,V3 (jz (ai hd)) h1 h2⟩
theorem PK:∀n,20<=GD n
 |0=>Nat.le_refl _
 |n+1=>by
  have:=PK n;show 20<=GD n+10;exact ai this
theorem G5:∀n,GenAt (SL n) n (GD n)
 |0=>V9
 |n+1=>by
  intro d hd sv ss h;have hg:=PK n;have hd:GD n+10<=d:=hd;obtain⟨fs,rfl,hl,ho⟩:=G4 (L:=SL n) (L0:=Nz) h;obtain⟨d,rfl⟩:∃e,d=e+2:=⟨d-2,by exact(Nat.sub_add_cancel (ai hd)).symm⟩;refine L8 hl fun f hf=>?_;obtain⟨h1,h2⟩:=V7 (d:=d) (Dm:=GD n) (by omega) (ai hd) (G5 n) (fun d hd=>V9 d (aZ hg hd)) (ho f hf);exact⟨h1,V3 (jz (ai hd)) h1 h2⟩
noncomputable def Dp:Row->List Nat
 |.gJ m=>[m]
 |.j7 m=>[m]
 |.bu _ _ _ _ m=>[m]
 |.select _ ms m=>ms++[m]
 |_=>[]
noncomputable def A0(f:Nat->Int)(r:Row):List D:=(Dp r).map fun m=>PyData.int (f m)
noncomputable def xe{α:Type}(a b:Bool)(x y z:Option α):Option α:=match a with
 |true=>x
 |false=>match b with
  |true=>y
  |false=>z
noncomputable def Ma{α:Type}(x:D)(K:List D->Option α):Option α:=by
 induction x using PyData.casesOn with
 |list l=>exact K l
 |_=>exact none
theorem Mb{α:Type}{motive:D->Prop}{x:D}{K:List D->Option α}{o:α}(h:Ma x K=some o)(H:∀l,motive (.list l)):motive x:=by
 revert h
 induction x using PyData.casesOn with
 |list l=>exact fun _=>H l
 |_=>exact Bh
noncomputable def A1:List Nat->List D->Option (List D)
 |[],_=>some []
 |c::cs,x::xs=>xe (Nat.beq c 106) (Nat.beq c 74) ((A1 cs xs).map (x::·)) (Ma x fun l=>(A1 cs xs).map (l++·)) (A1 cs xs)
 |_::_,[]=>none
noncomputable def Dq:List Nat->List D->List D->Option (List D)
 |[],_,_=>some []
 |c::cs,x::xs,ps=>xe (Nat.beq c 106) (Nat.beq c 74) (match ps with
  |p::ps=>(Dq cs xs ps).map (p::·)
  |[]=>none) (Ma x fun l=>if l.length<=ps.length then(Dq cs xs (ps.drop l.length)).map (.list (ps.take l.length)::·)else none) ((Dq cs xs ps).map (x::·))
 |_::_,[],_=>none
noncomputable def xf:List T:=[.fL (.cmp .eq (.sub (.var bM) (.var aW)) (.c (.str MA))) [.expr (.append (.var cf) (.sub (.var s_row) (.bin .add (.var aW) (.c (.int (.ofNat 1))))))] [.fL (.cmp .eq (.sub (.var bM) (.var aW)) (.c (.str Uc))) [.expr (.extend (.var cf) (.sub (.var s_row) (.bin .add (.var aW) (.c (.int (.ofNat 1))))))] []]]
noncomputable def xg(row:D)(parts:Str)(rest:ak):ak:=(s_row,.d row)::(bM,.d (.str parts))::(cf,.t 0)::rest
noncomputable def xh(rest:ak):Prop:=rest=[]\/∃v,rest=[(aW,.d v)]
theorem mW{α:Type}:∀(p:List α) (x:α) (q:List α),aq (p++x::q) p.length=some x:=by
 intro l0
 induction l0 with
 |nil=>
  intro _ _;exact rfl
 |cons h0 p ih=>
  intro x q;exact ih x q
theorem PL{c:Nat}{cs:List Nat}{y:D}{ys:List D}(h:Nat.beq c 106=true):A1 (c::cs) (y::ys)=(A1 cs ys).map (y::·):=by
 show xe _ _ _ _ _=_;rw[h];rfl
theorem PM{c:Nat}{cs:List Nat}{l ys:List D}(h:Nat.beq c 106=false)(h':Nat.beq c 74=true):A1 (c::cs) (.list l::ys)=(A1 cs ys).map (l++·):=by
 show xe _ _ _ _ _=_;rw[h,h'];rfl
theorem PN{c:Nat}{cs:List Nat}{y:D}{ys:List D}(h:Nat.beq c 106=false)(h':Nat.beq c 74=false):A1 (c::cs) (y::ys)=A1 cs ys:=by
 show xe _ _ _ _ _=_;rw[h,h'];rfl
theorem Wa{c:Nat}{cs:List Nat}{y:D}{ys:List D}(h:Nat.beq c 106=false)(h':Nat.beq c 74=true){out:List D}(ho:A1 (c::cs) (y::ys)=some out):∃l,y=.list l:=by
 have ho:xe (Nat.beq c 106) (Nat.beq c 74) _ (Ma y fun l=>(A1 cs ys).map (l++·)) _=some out:=ho;rw[h,h']at ho;exact Mb (motive:=fun y=>∃l,y=.list l) ho fun l=>⟨l,rfl⟩
theorem yj(c:Nat):eZ ⟨⟨[c]⟩⟩ MA=Nat.beq c 106:=by
 show(match Nat.beq c 106 with|true=>true|false=>false)=_;cases Nat.beq c 106<;>rfl
theorem I0(c:Nat):eZ ⟨⟨[c]⟩⟩ Uc=Nat.beq c 74:=by
 show(match Nat.beq c 74 with|true=>true|false=>false)=_;cases Nat.beq c 74<;>rfl
theorem OE{C:Cl}{w:D}{parts:Str}{xs:List D}{base:List (Option aL)}{γ:Nat}{Q:KF}:∀(cs pc:List Nat) (ys px:List D) (rest:ak) (r out:List D),parts.cps.toList=pc++cs->xs=px++ys->pc.length=px.length->xh rest->pc.length+cs.length<=50->A1 cs ys=some out->r.length+out.length<=1000->
  (∀aG,xh aG->Q .next (xg (.tuple (w::xs)) parts aG) ⟨base,[.list [] (out.reverse++r)],γ⟩)->
  forL (ex G C 59) [aW] xf none (eD pc.length cs.length) (xg (.tuple (w::xs)) parts rest) ⟨base,[.list [] r],γ⟩ Q:=by
 intro l0
 induction l0 with
 |nil=>
  intro pc ys px rest r out _ _ _ hr _ ho _ k;cases ho;exact k rest hr
 |cons c cs ih=>
  intro pc ys px rest r out hp hx hl hr hb ho w8 k;rcases ys with _|⟨y,ys⟩
  ·cases ho
  rw[List.length_cons]at hb;have h1:aq parts.cps.toList pc.length=some c:=by rw[hp];exact mW _ _ _
  have yA:aq xs pc.length=some y:=by rw[hx,hl];exact mW _ _ _
  have h2:idx (w::xs) (Int.ofNat pc.length+Int.ofNat 1)=some y:=yA;have e:pc.length+1=(pc++[c]).length:=by rw[List.length_append];rfl
  have Dr:pc.length<=ah:=by unfold ah;exact ai hb
  have FQ:pc.length+1<=ah:=by unfold ah;exact ai hb
  have next:∀(r' jA:List D) (aG:ak),xh aG->A1 cs ys=some jA->jA.reverse++r'=out.reverse++r->r'.length+jA.length<=1000->forL (ex G C 59) [aW] xf none (eD (pc.length+1) cs.length) (xg (.tuple (w::xs)) parts aG) ⟨base,[.list [] r'],γ⟩ Q:=by
   intro r' jA aG jc SN heq hlen;refine az (e) ?_;refine ih (pc++[c]) ys (px++[y]) aG r' jA (by rw[hp];simp) (by rw[hx];simp) (by rw[List.length_append,List.length_append,hl];rfl) jc (by rw[<-e];exact ai hb) SN hlen fun gV um=>?_;refine az (heq) ?_;exact k gV um
  show forL (ex G C 59) [aW] xf none (.int (Int.ofNat pc.length)::eD (pc.length+1) cs.length) (xg (.tuple (w::xs)) parts rest) ⟨base,[.list [] r],γ⟩ Q;refine az (dm) ?_;have go:∀R:ak->St->Prop,(∀(r' jA:List D) (aG:ak),xh aG->A1 cs ys=some jA->jA.reverse++r'=out.reverse++r->r'.length+jA.length<=1000->R (xg (.tuple (w::xs)) parts aG) ⟨base,[.list [] r'],γ⟩)->
    bind1 [aW] (.int (Int.ofNat pc.length)) (xg (.tuple (w::xs)) parts rest) fun d9=>gz (ex G C 59) xf d9 ⟨base,[.list [] r],γ⟩ (wo R Q):=by
   intro R hR;have ZF:xh [(aW,.d (.int (Int.ofNat pc.length)))]:=.inr ⟨_,rfl⟩;cases hj:Nat.beq c 106 with
   |true=>
    have xt:(A1 cs ys).map (y::·)=some out:=(PL hj).symm.trans ho;obtain⟨jA,q1,q2⟩:=Option.map_eq_some_iff.mp xt;have fin:=hR (y::r) jA _ ZF q1 (by rw[<-q2];simp) (by rw[<-q2,List.length_cons]at w8;rw[List.length_cons];exact ai w8);rcases hr with rfl|⟨v,rfl⟩
    all_goals
     conv=>whnf
     refine az (h1) ?_
     conv=>whnf
     refine aj Dr ?_
     conv=>whnf
     rw[yj,hj]
     conv=>whnf
     refine az (h2) ?_
     conv=>whnf
     refine aj FQ ?_
     conv=>whnf
     refine⟨by show 0+r.length<ah;unfold ah;exact ai w8,?_⟩
     conv=>whnf
     exact fin
   |false=>
    cases hJ:Nat.beq c 74 with
    |true=>
     obtain⟨l,rfl⟩:=Wa hj hJ ho
     ·have xt:(A1 cs ys).map (l++·)=some out:=(PM hj hJ).symm.trans ho;obtain⟨jA,q1,q2⟩:=Option.map_eq_some_iff.mp xt;have pC:r.length+l.length<=1000:=by rw[<-q2,List.length_append]at w8;omega
      have fin:=hR (l.reverse++r) jA _ ZF q1 (by rw[<-q2];simp) (by rw[<-q2,List.length_append]at w8;rw[List.length_append,List.length_reverse];exact ai w8);rcases hr with rfl|⟨v,rfl⟩
      all_goals
       conv=>whnf
       refine az (h1) ?_
       conv=>whnf
       refine aj Dr ?_
       conv=>whnf
       rw[yj,hj]
       conv=>whnf
       refine az (h1) ?_
       conv=>whnf
       refine aj Dr ?_
       conv=>whnf
       rw[I0,hJ]
       conv=>whnf
       refine az (h2) ?_;refine aj FQ ?_
       conv=>whnf
       refine⟨by unfold ah;omega,?_⟩
       conv=>whnf
       exact fin
    |false=>
     have xt:A1 cs ys=some out:=(PN hj hJ).symm.trans ho;have fin:=hR r out _ ZF xt rfl w8;rcases hr with rfl|⟨v,rfl⟩
     all_goals
      conv=>whnf
      refine az (h1) ?_
      conv=>whnf
      refine aj Dr ?_
      conv=>whnf
      rw[yj,hj]
      conv=>whnf
      refine az (h1) ?_
      conv=>whnf
      refine aj Dr ?_
      conv=>whnf
      rw[I0,hJ];exact fin
  exact go _ next
theorem Mc{c:Nat}{cs:List Nat}{y p:D}{ys ps:List D}(h:Nat.beq c 106=true):Dq (c::cs) (y::ys) (p::ps)=(Dq cs ys ps).map (p::·):=by
 show xe _ _ _ _ _=_;rw[h];rfl
theorem Md{c:Nat}{cs:List Nat}{y:D}{ys:List D}(h:Nat.beq c 106=true):Dq (c::cs) (y::ys) []=none:=by
 show xe _ _ _ _ _=_;rw[h];rfl
theorem Me{c:Nat}{cs:List Nat}{l ys ps:List D}(h:Nat.beq c 106=false)(h':Nat.beq c 74=true):Dq (c::cs) (.list l::ys) ps=if l.length<=ps.length then(Dq cs ys (ps.drop l.length)).map (.list (ps.take l.length)::·)else none:=by
 show xe _ _ _ _ _=_;rw[h,h'];rfl
theorem Mf{c:Nat}{cs:List Nat}{y:D}{ys ps:List D}(h:Nat.beq c 106=false)(h':Nat.beq c 74=false):Dq (c::cs) (y::ys) ps=(Dq cs ys ps).map (y::·):=by
 show xe _ _ _ _ _=_;rw[h,h'];rfl
theorem PO{c:Nat}{cs:List Nat}{y:D}{ys ps:List D}(h:Nat.beq c 106=false)(h':Nat.beq c 74=true){out:List D}(ho:Dq (c::cs) (y::ys) ps=some out):∃l,y=.list l:=by
 have ho:xe (Nat.beq c 106) (Nat.beq c 74) _ (Ma y _) _=some out:=ho;rw[h,h']at ho;exact Mb (motive:=fun y=>∃l,y=.list l) ho fun l=>⟨l,rfl⟩
noncomputable def xi:List T:=[.fL (.cmp .eq (.sub (.var bM) (.var aW)) (.c (.str MA))) [.expr (.append (.var l4) (.sub (.var fT) (.var kz))),.aug kz .add (.c (.int (.ofNat 1)))] [.fL (.cmp .eq (.sub (.var bM) (.var aW)) (.c (.str Uc))) [.asg (.x eC) (.len (.sub (.var s_row) (.bin .add (.var aW) (.c (.int (.ofNat 1)))))),.expr (.append (.var l4) (.sj (.DM (.var fT) (some (.var kz)) (some (.bin .add (.var kz) (.var eC)))))),.aug kz .add (.var eC)] [.expr (.append (.var l4) (.sub (.var s_row) (.bin .add (.var aW) (.c (.int (.ofNat 1))))))]]]
noncomputable def xj(row:D)(pl:List D)(parts:Str)(u:Nat)(rest:ak):ak:=(s_row,.d row)::(fT,.d (.list pl))::(bM,.d (.str parts))::(l4,.t 0)::(kz,.d (.int (Int.ofNat u)))::rest
noncomputable def A2(rest:ak):Prop:=rest=[]\/(∃v,rest=[(aW,.d v)])\/∃v c,rest=[(aW,.d v),(eC,.d c)]
theorem drop_cons{α:Type}:∀{l:List α} {u:Nat} {p:α} {ps:List α},l.drop u=p::ps->aq l u=some p/\l.drop (u+1)=ps
 |[],u,p,ps,h=>by simp at h
 |x::l,0,p,ps,h=>by rcases h with _|_;exact⟨rfl,rfl⟩
 |x::l,u+1,p,ps,h=>drop_cons (l:=l) h
theorem OF{C:Cl}{w:D}{parts:Str}{xs pl:List D}{base:List (Option aL)}{γ:Nat}{Q:KF}(w7:pl.length<=1000):∀(cs pc:List Nat) (ys px:List D) (rest:ak) (r out:List D) (u:Nat),parts.cps.toList=pc++cs->xs=px++ys->pc.length=px.length->A2 rest->pc.length+cs.length<=50->u<=pl.length->Dq cs ys (pl.drop u)=some out->r.length+out.length<=1000->
  (∀aG u',A2 aG->Q .next (xj (.tuple (w::xs)) pl parts u' aG) ⟨base,[.list [] (out.reverse++r)],γ⟩)->
  forL (ex G C 59) [aW] xi none (eD pc.length cs.length) (xj (.tuple (w::xs)) pl parts u rest) ⟨base,[.list [] r],γ⟩ Q:=by
 intro l0
 induction l0 with
 |nil=>
  intro pc ys px rest r out u _ _ _ hr _ _ ho _ k;have:out=[]:=by cases (show some []=some out from ho);rfl
  subst this;exact k rest u hr
 |cons c cs ih=>
  intro pc ys px rest r out u hp hx hl hr hb hu ho w8 k;rcases ys with _|⟨y,ys⟩
  ·exact Bh ho
  rw[List.length_cons]at hb;have h1:aq parts.cps.toList pc.length=some c:=by rw[hp];exact mW _ _ _
  have yA:aq xs pc.length=some y:=by rw[hx,hl];exact mW _ _ _
  have h2:idx (w::xs) (Int.ofNat pc.length+Int.ofNat 1)=some y:=yA;have e:pc.length+1=(pc++[c]).length:=by rw[List.length_append];rfl
  have Dr:pc.length<=ah:=by unfold ah;exact ai hb
  have FQ:pc.length+1<=ah:=by unfold ah;exact ai hb
  have MS:0+r.length<ah:=by unfold ah;exact ai w8
  have next:∀(r' jA:List D) (u':Nat) (aG:ak),A2 aG->u'<=pl.length->Dq cs ys (pl.drop u')=some jA->jA.reverse++r'=out.reverse++r->r'.length+jA.length<=1000->forL (ex G C 59) [aW] xi none (eD (pc.length+1) cs.length) (xj (.tuple (w::xs)) pl parts u' aG) ⟨base,[.list [] r'],γ⟩ Q:=by
   intro r' jA u' aG jc hu' SN heq hlen;refine az (e) ?_;refine ih (pc++[c]) ys (px++[y]) aG r' jA u' (by rw[hp];simp) (by rw[hx];simp) (by rw[List.length_append,List.length_append,hl];rfl) jc (by rw[<-e];exact ai hb) hu' SN hlen fun gV u2 um=>?_;refine az (heq) ?_;exact k gV u2 um
  show forL (ex G C 59) [aW] xi none (.int (Int.ofNat pc.length)::eD (pc.length+1) cs.length) (xj (.tuple (w::xs)) pl parts u rest) ⟨base,[.list [] r],γ⟩ Q;refine az (dm) ?_;have go:∀R:ak->St->Prop,(∀(r' jA:List D) (u':Nat) (aG:ak),A2 aG->u'<=pl.length->Dq cs ys (pl.drop u')=some jA->jA.reverse++r'=out.reverse++r->r'.length+jA.length<=1000->R (xj (.tuple (w::xs)) pl parts u' aG) ⟨base,[.list [] r'],γ⟩)->
    bind1 [aW] (.int (Int.ofNat pc.length)) (xj (.tuple (w::xs)) pl parts u rest) fun d9=>gz (ex G C 59) xi d9 ⟨base,[.list [] r],γ⟩ (wo R Q):=by
   intro R hR;cases hj:Nat.beq c 106 with
   |true=>
    cases hd:pl.drop u with
    |nil=>rw[hd,Md hj]at ho;cases ho
    |cons p ps=>
     have FR:=drop_cons hd;have Jp:=FR.1;have Zr:=FR.2;clear FR;rw[hd,Mc hj]at ho;obtain⟨jA,q1,q2⟩:=Option.map_eq_some_iff.mp ho;have W6:=k5 Jp;have Jp:idx pl (Int.ofNat u)=some p:=Jp;have fin:=fun aG jc=>hR (p::r) jA (u+1) aG jc (ai W6) (by rw[Zr];exact q1) (by rw[<-q2];simp) (by rw[<-q2,List.length_cons]at w8;rw[List.length_cons];exact ai w8);rcases hr with rfl|⟨v,rfl⟩|⟨v,c0,rfl⟩
     ·conv=>whnf
      refine az (h1) ?_;refine aj Dr ?_
      conv=>whnf
      rw[yj,hj]
      conv=>whnf
      refine az (Jp) ?_;refine aj (by unfold ah;exact aZ w7 hu) ?_;refine⟨MS,?_⟩;exact fin [(aW,.d (.int (Int.ofNat pc.length)))] (.inr (.inl ⟨_,rfl⟩))
     ·conv=>whnf
      refine az (h1) ?_
      conv=>whnf
      refine aj Dr ?_
      conv=>whnf
      rw[yj,hj]
      conv=>whnf
      refine az (Jp) ?_
      conv=>whnf
      refine aj (by unfold ah;exact aZ w7 hu) ?_
      conv=>whnf
      refine⟨MS,?_⟩
      conv=>whnf
      exact fin [(aW,.d (.int (Int.ofNat pc.length)))] (.inr (.inl ⟨_,rfl⟩))
     ·conv=>whnf
      refine az (h1) ?_
      conv=>whnf
      refine aj Dr ?_
      conv=>whnf
      rw[yj,hj]
      conv=>whnf
      refine az (Jp) ?_
      conv=>whnf
      refine aj (by unfold ah;exact aZ w7 hu) ?_
      conv=>whnf
      refine⟨MS,?_⟩
      conv=>whnf
      exact fin [(aW,.d (.int (Int.ofNat pc.length))),(eC,.d c0)] (.inr (.inr ⟨_,_,rfl⟩))
   |false=>
    cases hJ:Nat.beq c 74 with
    |true=>
     obtain⟨l,rfl⟩:=PO hj hJ ho;rw[Me hj hJ]at ho;split at ho
     ·rename_i hle;obtain⟨jA,q1,q2⟩:=Option.map_eq_some_iff.mp ho;rw[List.drop_drop]at q1;rw[List.length_drop]at hle;have pC:l.length<=1000:=by omega
      have etd:(pl.take (u+l.length)).drop u=(pl.drop u).take l.length:=by
       refine az (List.drop_take) ?_
       congr 1
       omega
      have fin:=hR (.list ((pl.drop u).take l.length)::r) jA (u+l.length) [(aW,.d (.int (Int.ofNat pc.length))),(eC,.d (.int (Int.ofNat l.length)))] (.inr (.inr ⟨_,_,rfl⟩)) (by omega) q1 (by rw[<-q2];simp) (by rw[<-q2,List.length_cons]at w8;rw[List.length_cons];exact ai w8);rw[<-etd]at fin;have W6:u+l.length<=pl.length:=by omega
      ·rcases hr with rfl|⟨v,rfl⟩|⟨v,c0,rfl⟩
       all_goals
        conv=>whnf
        refine az (h1) ?_
        conv=>whnf
        refine aj Dr ?_
        conv=>whnf
        rw[yj,hj]
        conv=>whnf
        refine az (h1) ?_
        conv=>whnf
        refine aj Dr ?_
        conv=>whnf
        rw[I0,hJ]
        conv=>whnf
        refine az (h2) ?_;refine aj FQ ?_;refine aj (by unfold ah;omega) ?_;refine⟨by unfold ah;exact aZ w7 hu,?_⟩;refine⟨by show u+l.length<=ah;unfold ah;exact aZ w7 W6,?_⟩;refine⟨⟨Nat.le_add_right _ _,W6,by unfold ah;omega⟩,?_⟩;refine⟨by rw[List.length_drop,List.length_take];unfold ah;omega,?_⟩;refine⟨MS,?_⟩;exact fin
     ·cases ho
    |false=>
     rw[Mf hj hJ]at ho;obtain⟨jA,q1,q2⟩:=Option.map_eq_some_iff.mp ho;have fin:=fun aG jc=>hR (y::r) jA u aG jc hu q1 (by rw[<-q2];simp) (by rw[<-q2,List.length_cons]at w8;rw[List.length_cons];exact ai w8);rcases hr with rfl|⟨v,rfl⟩|⟨v,c0,rfl⟩
     ·conv=>whnf
      refine az (h1) ?_;refine aj Dr ?_
      conv=>whnf
      rw[yj,hj]
      conv=>whnf
      refine az (h1) ?_;refine aj Dr ?_
      conv=>whnf
      rw[I0,hJ]
      conv=>whnf
      refine az (h2) ?_;refine aj FQ ?_;refine⟨MS,?_⟩;exact fin [(aW,.d (.int (Int.ofNat pc.length)))] (.inr (.inl ⟨_,rfl⟩))
     ·conv=>whnf
      refine az (h1) ?_;refine aj Dr ?_
      conv=>whnf
      rw[yj,hj]
      conv=>whnf
      refine az (h1) ?_;refine aj Dr ?_
      conv=>whnf
      rw[I0,hJ]
      conv=>whnf
      refine az (h2) ?_;refine aj FQ ?_;refine⟨MS,?_⟩;exact fin [(aW,.d (.int (Int.ofNat pc.length)))] (.inr (.inl ⟨_,rfl⟩))
     ·conv=>whnf
      refine az (h1) ?_;refine aj Dr ?_
      conv=>whnf
      rw[yj,hj]
      conv=>whnf
      refine az (h1) ?_;refine aj Dr ?_
      conv=>whnf
      rw[I0,hJ]
      conv=>whnf
      refine az (h2) ?_;refine aj FQ ?_;refine⟨MS,?_⟩;exact fin [(aW,.d (.int (Int.ofNat pc.length))),(eC,.d c0)] (.inr (.inr ⟨_,_,rfl⟩))
  exact go _ next
structure Mg(r:Row)(w:Str)(xs:List D)(t l:Int)(parts:Str):Prop where
 enc:bV M0 r=.tuple (.str w::xs)
 look:dE w uG=some (.tuple [.int t,.int l,.str parts])
 len:parts.cps.toList.length=xs.length
 le:xs.length<=10
 jo:A1 parts.cps.toList xs=some (A0 M0 r)
 wj:∀M,∃OG,Dq parts.cps.toList xs (A0 M r)=some OG/\bV M r=.tuple (.str w::OG)
theorem Sa(M:Nat->Int)(b:Bool)(ms:List Nat)(m:Nat):Dq [45,74,106] [.bool b,.list (ms.map fun m=>.int (M0 m)),.int (M0 m)] (A0 M (.select b ms m))=some [.bool b,.list (ms.map fun m=>.int (M m)),.int (M m)]:=by
 have e:A0 M (.select b ms m)=(ms.map fun m=>PyData.int (M m))++[.int (M m)]:=by
  unfold A0 Dp;rw[List.map_append];rfl
 refine az (e) ?_;have hl:(ms.map fun m=>PyData.int (M0 m)).length=ms.length:=List.length_map _;have xw:(ms.map fun m=>PyData.int (M m)).length=ms.length:=List.length_map _;refine az (Mf (by decide) (by decide)) ?_;refine az (Me (by decide) (by decide)) ?_;refine az (if_pos (by rw[hl,List.length_append,xw];omega)) ?_;refine az (hl) ?_;refine az (List.take_left' xw) ?_;refine az (List.drop_left' xw) ?_;refine az (Mc (by decide)) ?_;rfl
theorem Sb(b:Bool)(ms:List Nat)(m:Nat):A1 [45,74,106] [.bool b,.list (ms.map fun m=>.int (M0 m)),.int (M0 m)]=some (A0 M0 (.select b ms m)):=by
 have e:A0 M0 (.select b ms m)=(ms.map fun m=>PyData.int (M0 m))++[.int (M0 m)]:=by
  unfold A0 Dp;rw[List.map_append];rfl
 refine az (e) ?_;refine az (PN (by decide) (by decide)) ?_;refine az (PM (by decide) (by decide)) ?_;refine az (PL (by decide)) ?_;rfl
theorem row_shape(r:Row):∃w xs t l parts,Mg r w xs t l parts:=by
 induction r using Row.casesOn with
 |select b ms m=>exact⟨bB,_,_,_,_,⟨rfl,rfl,rfl,by simp,Sb b ms m,fun M=>⟨_,Sa M b ms m,rfl⟩⟩⟩
 |_=>exact⟨_,_,_,_,_,⟨rfl,rfl,rfl,by simp,rfl,fun M=>⟨_,rfl,rfl⟩⟩⟩
noncomputable def A3(C:Cl):Prop:=∀(r:Row) (σ:St) (Q:KV),σ.temps=[]->(Dp r).length<=100->(∀τ,Q (.d (.list (A0 M0 r))) {σ with temps:=τ})->C nr [.d (bV M0 r)] σ Q
noncomputable def G6(C:Cl):Prop:=∀(r:Row) (M:Nat->Int) (σ:St) (Q:KV),σ.temps=[]->(Dp r).length<=100->(∀τ,Q (.d (bV M r)) {σ with temps:=τ})->C kR [.d (bV M0 r),.d (.list (A0 M r))] σ Q
theorem OH{C:Cl}(hs:wz C):A3 (Run C):=by
 intro r σ Q Ik hj k;obtain⟨w,xs,t,l,parts,hR⟩:=row_shape r;have sh:=fun K=>hs r σ K Ik w xs _ hR.enc hR.look;rw[hR.enc]at sh⊢;cases σ with|mk base temps γ=>
 rcases Ik with _|_;show gz (ex G C 60) ((P.code nr).take 2++([.gN [aW] (.sg (.len (.var bM))) xf]++[.ret (some (.var cf))])) [(s_row,.d (.tuple (.str w::xs)))] ⟨base,[],γ⟩ (fQ Q);refine bq fun R Wb=>?_;refine sh _ ?_;refine Wb (xg (.tuple (.str w::xs)) parts []) ⟨base,[.list [] []],γ⟩ ?_;refine bq fun R2 tT=>?_;refine js fun F hF=>?_;have hle:=hR.le;have w7:parts.length=xs.length:=by rw[<-hR.len];simp[Str.length]
 refine aj (by rw[w7];unfold ah;omega) ?_;refine aj (by rw[w7];unfold ah;omega) ?_;refine hF _ _ _ ?_;rw[mU,w7,<-hR.len];refine OE (w:=.str w) (xs:=xs) parts.cps.toList [] xs [] [] [] (A0 M0 r) rfl rfl rfl (.inl rfl) (by rw[hR.len,List.length_nil];exact ai hle) hR.jo (by unfold A0;rw[List.length_map,List.length_nil];exact ai hj) fun aG jc=>?_;refine tT _ _ ?_;have kk:∀τ,Q (.d (.list ((A0 M0 r).reverse++[]).reverse)) ⟨base,τ,γ⟩:=fun τ=>by
  rw[List.append_nil,List.reverse_reverse];exact k τ
 rcases jc with rfl|⟨v,rfl⟩
 all_goals
  exact kk _
theorem Sd{C:Cl}(hs:wz C):G6 (Run C):=by
 intro r M σ Q Ik hj k;obtain⟨w,xs,t,l,parts,hR⟩:=row_shape r;obtain⟨OG,hw,he⟩:=hR.wj M;have sh:=fun K=>hs r σ K Ik w xs _ hR.enc hR.look;have VA:(A0 M r).length<=100:=by unfold A0;rw[List.length_map];exact hj
 have hxl:∀(cs:List Nat) (ys ps out:List D),Dq cs ys ps=some out->out.length=cs.length:=by
  intro cs
  induction cs with
  |nil=>intro ys ps out h;cases (show some []=some out from h);rfl
  |cons c cs ih=>
   intro ys ps out h
   induction ys using List.casesOn with
   |nil=>exact Bh h
   |cons y ys=>
    cases h1:Nat.beq c 106 with
    |true=>
     induction ps using List.casesOn with
     |nil=>rw[Md h1]at h;cases h
     |cons p ps=>
      rw[Mc h1]at h;obtain⟨o,q1,q2⟩:=Option.map_eq_some_iff.mp h;rw[<-q2,List.length_cons,List.length_cons,ih _ _ _ q1]
    |false=>
     cases h2:Nat.beq c 74 with
     |true=>
      obtain⟨l,rfl⟩:=PO h1 h2 h;rw[Me h1 h2]at h;split at h
      ·obtain⟨o,q1,q2⟩:=Option.map_eq_some_iff.mp h;rw[<-q2,List.length_cons,List.length_cons,ih _ _ _ q1]
      ·cases h
     |false=>
      rw[Mf h1 h2]at h;obtain⟨o,q1,q2⟩:=Option.map_eq_some_iff.mp h;rw[<-q2,List.length_cons,List.length_cons,ih _ _ _ q1]
 have WJ:OG.length=xs.length:=by rw[hxl _ _ _ _ hw,hR.len]
 rw[he]at k;rw[hR.enc]at sh⊢;generalize A0 M r=pl at hw VA⊢;cases σ with|mk base temps γ=>
 rcases Ik with _|_;show gz (ex G C 60) ((P.code kR).take 3++([.gN [aW] (.sg (.len (.var bM))) xi]++[.ret (some (.oZ (.var l4)))])) [(s_row,.d (.tuple (.str w::xs))),(fT,.d (.list pl))] ⟨base,[],γ⟩ (fQ Q);refine bq fun R Wb=>?_;refine sh _ ?_;refine Wb (xj (.tuple (.str w::xs)) pl parts 0 []) ⟨base,[.list [] [.str w]],γ⟩ ?_;refine bq fun R2 tT=>?_;refine js fun F hF=>?_;have hle:=hR.le;have w7:parts.length=xs.length:=by rw[<-hR.len];simp[Str.length]
 refine aj (by rw[w7];unfold ah;omega) ?_;refine aj (by rw[w7];unfold ah;omega) ?_;refine hF _ _ _ ?_;rw[mU,w7,<-hR.len];refine OF (w:=.str w) (xs:=xs) (pl:=pl) (by omega) parts.cps.toList [] xs [] [] [.str w] OG 0 rfl rfl rfl (.inl rfl) (by rw[hR.len,List.length_nil];exact ai hle) (Nat.zero_le _) hw (by rw[List.length_singleton];exact aZ (il WJ) hle) fun aG u' jc=>?_;refine tT _ _ ?_;have kk:∀τ,Q (.d (.tuple (OG.reverse++[PyData.str w]).reverse)) ⟨base,τ,γ⟩:=fun τ=>by
  have:(OG.reverse++[PyData.str w]).reverse=.str w::OG:=by simp
  rw[this];exact k τ
 have hfl:(OG.reverse++[PyData.str w]).reverse.length<=ah:=by
  rw[List.length_reverse,List.length_append,List.length_reverse,List.length_singleton];unfold ah;exact aZ (il WJ) hle
 rcases jc with rfl|⟨v,rfl⟩|⟨v,c,rfl⟩
 all_goals
  refine⟨hfl,?_⟩;exact kk _
theorem OI:∀{d:Nat},2<=d->A3 (Cd G P d)
 |0,h=>absurd h (by decide)
 |_+1,h=>OH (AR (ai h))
theorem Se:∀{d:Nat},2<=d->G6 (Cd G P d)
 |0,h=>absurd h (by decide)
 |_+1,h=>Sd (AR (ai h))
theorem yX{ê:ak}{P:Prop}(h:iM ê=false)(p:P):n0 ê P:=by
 unfold n0;rw[h];exact p
theorem pI:∀l:List D,qL (l.map ag.d)=some l
 |[]=>rfl
 |x::l=>by
  show(match qL (l.map ag.d)with|some r=>some (x::r)|none=>none)=_;rw[pI l]
theorem G7(l:List D):Jh (l.map ag.d)=.list [] l.reverse:=by
 unfold Jh;rw[pI]
theorem I4{mr:List Int}{m:Nat}(h:m<mr.length):aq (items [] (mr.map PyData.int)) m=some (.d (.int (f9 mr m))):=by
 unfold items f9;rw[List.nil_append,mN,mN,List.map_map,List.getElem?_reverse (by rw[List.length_map];exact h),List.getElem?_map,List.length_map];have:mr.length-1-m<mr.length:=F0 h;refine az (List.getElem?_eq_getElem this) ?_;rfl
theorem FT{C:Cl}{n:Nat}{fr:Fr}{rr:List Row}{mr:List Int}{aB:List (Nat×Nat)}{h av:Int}{γ:Nat}{τ:List aL}{K:List ag->St->Prop}(DG:mr.length<=100000):∀(ms:List Nat) (acc:List ag),(∀m∈ms,m<mr.length)->
  K (acc.reverse++ms.map fun m=>ag.d (.int (f9 mr m))) (cS fr rr mr aB h av γ τ)->
  kb (ev G C (n+3)) G.tab (n+3) (.sub (.attr (.var af) dn) (.var eX)) eX none none [(af,.b 4)] (ms.map fun m=>PyData.int (M0 m)) acc (cS fr rr mr aB h av γ τ) K:=by
 intro l0
 induction l0 with
 |nil=>
  intro acc _ k;rw[List.map_nil,List.append_nil]at k;exact k
 |cons m ms ih=>
  intro acc hm k;have ZG:=hm m List.mem_cons_self;have next:∀v,v=ag.d (.int (f9 mr m))->kb (ev G C (n+3)) G.tab (n+3) (.sub (.attr (.var af) dn) (.var eX)) eX none none [(af,.b 4)] (ms.map fun m=>PyData.int (M0 m)) (v::acc) (cS fr rr mr aB h av γ τ) K:=fun v hv=>by
   refine ih (v::acc) (fun x hx=>hm x (List.mem_cons_of_mem _ hx)) ?_;rw[hv,List.reverse_cons,List.append_assoc];exact k
  refine az (List.map_cons) ?_;have W:∃W:ag->St->Prop,W=fun v σ=>kb (ev G C (n+3)) G.tab (n+3) (.sub (.attr (.var af) dn) (.var eX)) eX none none [(af,.b 4)] (ms.map fun m=>PyData.int (M0 m)) (v::acc) σ K:=⟨_,rfl⟩;obtain⟨W,hW⟩:=W;have G8:W (.d (.int (f9 mr m))) (cS fr rr mr aB h av γ τ):=by rw[hW];exact next _ rfl
  show ev G C (n+3) (.sub (.attr (.var af) dn) (.var eX)) [(eX,.d (.int (M0 m))),(af,.b 4)] (cS fr rr mr aB h av γ τ) fun v ab=>fz v ab fun v' au=>uY v' ((fun v σ=>kb (ev G C (n+3)) G.tab (n+3) (.sub (.attr (.var af) dn) (.var eX)) eX none none [(af,.b 4)] (ms.map fun m=>PyData.int (M0 m)) (v::acc) σ K) v' au);refine Je (hW) ?_;clear hW
  conv=>whnf
  refine az (I4 ZG) ?_;refine aj (by unfold ah;exact aZ DG ZG (aZ DG ZG)) ?_;exact G8
noncomputable def mX:E:=.call kR [(.var s_row),(.comp (.sub (.attr (.var af) dn) (.var eX)) eX (.call nr [(.var s_row)]) none [af])]
theorem sd.jm{n:Nat}{r:Row}(h:sd n r):(∀m∈Dp r,m<n)/\(Dp r).length<=51:=by
 induction r using Row.casesOn with
 |gJ m=>exact⟨fun x hx=>by rw[Dp,List.mem_singleton]at hx;exact hx▸h,by simp[Dp]⟩
 |j7 m=>exact⟨fun x hx=>by rw[Dp,List.mem_singleton]at hx;exact hx▸h,by simp[Dp]⟩
 |bu e f c how m=>exact⟨fun x hx=>by rw[Dp,List.mem_singleton]at hx;exact hx▸h,by simp[Dp]⟩
 |select b ms m=>
  refine⟨fun x hx=>?_,by unfold Dp;rw[List.length_append,List.length_singleton];have:=h.1.2;exact ai this⟩;unfold Dp at hx;rcases List.mem_append.mp hx with hx|hx
  ·exact h.1.1 x hx
  ·rw[List.mem_singleton]at hx;exact hx▸h.2
 |_=>exact⟨fun x hx=>(by rcases hx with _|_),Nat.zero_le _⟩
theorem Ds{C:Cl}(hJ:A3 C)(ZH:G6 C){fr:Fr}{rr:List Row}{mr:List Int}{aB:List (Nat×Nat)}{h av:Int}{γ:Nat}{K:List ag->St->Prop}(DG:mr.length<=100000):∀(rows:List Row) (acc:List ag),(∀r∈rows,sd mr.length r)->
  K (acc.reverse++rows.map fun r=>ag.d (bV (f9 mr) r)) (cS fr rr mr aB h av γ [])->
  kb (ev G C 58) G.tab 58 mX s_row none (some (5,rr.map (bV M0))) [(af,.b 4)] (rows.map (bV M0)) acc (cS fr rr mr aB h av γ []) K:=by
 intro l0
 induction l0 with
 |nil=>
  intro acc _ k;rw[List.map_nil,List.append_nil]at k;exact⟨rfl,k⟩
 |cons r rows ih=>
  intro acc hr k;obtain⟨hj1,hj2⟩:=(hr r List.mem_cons_self).jm;have W:∃W:ag->St->Prop,W=fun v σ=>kb (ev G C 58) G.tab 58 mX s_row none (some (5,rr.map (bV M0))) [(af,.b 4)] (rows.map (bV M0)) (v::acc) σ K:=⟨_,rfl⟩;obtain⟨W,hW⟩:=W;have G8:W (.d (bV (f9 mr) r)) (cS fr rr mr aB h av γ []):=by
   refine az (hW) ?_;refine ih (_::acc) (fun x hx=>hr x (List.mem_cons_of_mem _ hx)) ?_;rw[List.reverse_cons,List.append_assoc];exact k
  refine az (List.map_cons) ?_;refine⟨rfl,?_⟩;show ev G C 58 mX [(s_row,.d (bV M0 r)),(af,.b 4)] (cS fr rr mr aB h av γ []) fun v ab=>fz v ab fun v' au=>uY v' ((fun v σ=>kb (ev G C 58) G.tab 58 mX s_row none (some (5,rr.map (bV M0))) [(af,.b 4)] (rows.map (bV M0)) (v::acc) σ K) v' au);refine Je (hW) ?_;clear hW;have hjc:=fun K=>hJ r (cS fr rr mr aB h av γ []) K rfl (by omega);have hwc:=fun K=>ZH r (f9 mr) (cS fr rr mr aB h av γ []) K rfl (by omega);have keep:uY (.d (bV (f9 mr) r)) (W (.d (bV (f9 mr) r)) (cS fr rr mr aB h av γ [])):=G8;generalize bV M0 r=y at hjc hwc⊢;refine hjc _ fun τ=>?_;refine aj (by unfold A0;rw[List.length_map];unfold ah;omega) ?_;refine yX rfl ?_;refine FT (n:=53) DG (Dp r) [] hj1 ?_;rw[List.reverse_nil,List.nil_append];have e:((Dp r).map fun m=>ag.d (.int (f9 mr m)))=(A0 (f9 mr) r).map ag.d:=by
   unfold A0;rw[List.map_map];rfl
  refine az (e) ?_
  conv=>whnf
  rw[G7,pI]
  conv=>whnf
  rw[List.reverse_reverse];refine hwc _ fun τ=>?_;exact G8
noncomputable def A4(C:Cl):Prop:=∀(fr:Fr) (rr:List Row) (mr:List Int) (aB:List (Nat×Nat)) (h av:Int) (γ:Nat) (Q:KV),rr.length<=100000->mr.length<=100000->jx mr.length rr->
 Q (.d (.list (rr.reverse.map (bV (f9 mr))))) (cS fr rr mr aB h av γ [])->C j3 [.b 4] (cS fr rr mr aB h av γ []) Q
theorem Mh{n:Nat}{l:List Row}(h:jx n l)(r:Row)(hr:r∈l):sd n r:=by
 induction l with
 |nil=>cases hr
 |cons x l ih=>
  rcases List.mem_cons.mp hr with rfl|hr
  ·exact h.1
  ·exact ih h.2 hr
theorem Mi{C:Cl}(hJ:A3 C)(ZH:G6 C):A4 (Run C):=by
 intro fr rr mr aB h av γ Q hr hm G2 k;have e:P.code j3=[.ret (some (.comp mX s_row (.attr (.var af) bT) none [af]))]:=rfl;show gz (ex G C 60) (P.code j3) [(af,.b 4)] (cS fr rr mr aB h av γ []) (fQ Q);refine az (e) ?_;refine az (Ao) ?_;show mq (ev G C 58) (.attr (.var af) bT) [(af,.b 4)] (cS fr rr mr aB h av γ []) (fun xs w ab=>n0 (envOf [af] [(af,.b 4)])<|kb (ev G C 58) G.tab 58 mX s_row none w (envOf [af] [(af,.b 4)]) xs [] ab fun vs au=>pK [(af,.b 4)] ab au (pL (match qL vs with|some _=>.fz|none=>.A6) (Jh vs) [(af,.b 4)] au fun v ab=>fz v ab fun v' au=>fQ Q (.ret v') [(af,.b 4)] au));refine K7 fun F hF=>?_;refine aj (by rw[List.length_map];unfold ah;omega) ?_;refine hF _ _ _ ?_;clear hF F;refine yX rfl ?_;refine Je (List.map_reverse) ?_;refine Ds hJ ZH hm rr.reverse [] (fun r hr=>Mh G2 r (List.mem_reverse.mp hr)) ?_;rw[List.reverse_nil,List.nil_append];have e2:(rr.reverse.map fun r=>ag.d (bV (f9 mr) r))=(rr.reverse.map (bV (f9 mr))).map ag.d:=by
  rw[List.map_map];rfl
 refine az (e2) ?_;generalize rr.reverse.map (bV (f9 mr))=R at k⊢;rw[G7,pI]
 conv=>whnf
 rw[List.reverse_reverse];exact k
theorem Mj:∀{d:Nat},3<=d->A4 (Cd G P d)
 |0,h=>absurd h (by decide)
 |_+1,h=>Mi (OI (ai h)) (Se (ai h))
noncomputable def stN(fr:Fr)(o4 o5 o6 o7 o9:Option aL)(γ:Nat)(τ:List aL):St:=
 ⟨[some (mO fr.ns fr.sp fr.line fr.left),some (GG fr.body),some nE,some rS,o4,o5,o6,o7,none,o9,none,none,none,none,none,none,some qc,some oO,some pE,some (.dict [])],τ,γ⟩
noncomputable def Wc:aL:=.inst 0 [(eg,.b 3),(bT,.b 5),(dn,.b 6),(aN,.d (.int (.ofNat 0))),(c9,.d (.int (.ofNat 0))),(uF,.d (.list [])),(iW,.b 7)]
noncomputable def Mk(C:Cl):Prop:=∀(fr:Fr) (γ:Nat) (Q:KV),Q (.d (.int (.ofNat 0))) (stN fr (some Wc) (some (.list [] [])) (some (.list [] [.int (-1)])) (some (.list [] [])) none γ [])->C dz [.b 4] (stN fr (some Wc) (some (.list [] [])) (some (.list [] [])) (some (.list [] [])) none γ []) Q
theorem Sf{C:Cl}:Mk (Run C):=by
 intro fr γ Q k;refine⟨by decide,?_⟩;exact k
noncomputable def xl(C:Cl):Prop:=∀(fr:Fr) (γ:Nat) (Q:KV),Q (.d .none) (cS fr [] [-1] [] 0 0 γ [])->C 6 [.b 4,.b 3] (stN fr (some (.inst 0 [])) none none none none γ []) Q
theorem I8{C:Cl}(hn:Mk C):xl (Run C):=by
 intro fr γ Q k;refine⟨Nat.le_of_ble_eq_true rfl,?_⟩;refine⟨Nat.le_of_ble_eq_true rfl,?_⟩;refine⟨Nat.le_of_ble_eq_true rfl,?_⟩;refine⟨Nat.le_of_ble_eq_true rfl,?_⟩;refine⟨Nat.le_of_ble_eq_true rfl,?_⟩;refine⟨Nat.le_of_ble_eq_true rfl,?_⟩;refine⟨Nat.le_of_ble_eq_true rfl,?_⟩;refine hn fr γ _ ?_;refine⟨Nat.le_of_ble_eq_true rfl,?_⟩;refine⟨Nat.le_of_ble_eq_true rfl,?_⟩;exact k
noncomputable def tv(C:Cl):Prop:=∀(fr:Fr) (rr:List Row) (mr:List Int) (R:List D) (γ:Nat) (Q:KV),
 Q (.d .none) (stN fr (some (Ff 0 0)) (some (.list [] (rr.map (bV M0)))) (some (.list [] (mr.map PyData.int))) (some (.list [] [])) (some (Lq R)) γ [])->
 C 0 [.b 9,.d (.list R),.b 1,.d (.list [])] (stN fr (some (Ff 0 0)) (some (.list [] (rr.map (bV M0)))) (some (.list [] (mr.map PyData.int))) (some (.list [] [])) (some (.inst 3 [])) γ []) Q
theorem FU{C:Cl}:tv (Run C):=by
 intro fr rr mr R γ Q k;refine⟨Nat.le_of_ble_eq_true rfl,?_⟩;refine⟨Nat.le_of_ble_eq_true rfl,?_⟩;refine⟨Nat.le_of_ble_eq_true rfl,?_⟩;refine⟨Nat.le_of_ble_eq_true rfl,?_⟩;refine⟨Nat.le_of_ble_eq_true rfl,?_⟩;exact k
structure A5(ss:List D)(R:List D)(rr:List Row)(mr:List Int):Prop where
 len:R.length<=60000
 rows:R=rr.reverse.map (bV (f9 mr))
 good:∃new iT,qF 3 (2*BS 3) ss [] 0 [.arm] [-1, -1] new iT/\rr=.fw::(new++[.arm])/\lN (f9 mr) 2 iT
noncomputable def FV(C:Cl)(ss:List D):Prop:=∀(fr:Fr) (γ:Nat) (Q:KV),fr.body=ss->
 (∀rr mr R gE τ,A5 ss R rr mr->Q (.b 9) (stN fr (some (Ff 0 0)) (some (.list [] (rr.map (bV M0)))) (some (.list [] (mr.map PyData.int))) (some (.list [] [])) (some (Lq R)) gE τ))->
 C rn [.b 3,.b 1,.d (.str fb)] (stN fr none none none none none γ []) Q
theorem OJ{C:Cl}{ss:List D}(hG:xl C)(hH:G0 (sv:=false) 3 C ss .fw)(hP:A4 C)(hC:tv C):FV (Run C) ss:=by
 intro fr γ Q hb k;have hB:BS 3=12056:=by decide
 subst hb;refine hG fr γ _ ?_;refine hH fr [] [-1] [] 0 0 γ _ ⟨by rw[hB];decide,by rw[hB];decide,(fun h=>by rcases h with _|_),by decide,(fun p hp=>by rcases hp with _|_),by decide⟩ (by rw[hB];decide) (by rw[hB];decide) (by decide) fun new iT oW We=>?_;have h1:=We.len;have h2:=We.jX;have h3:=We.keep;have h3l:=h3.1;rw[hB]at h1 h2;simp only[List.length_cons,List.length_nil]at h2 h3l;have hlen:(new++Row.arm::[]).length=1+new.length:=by rw[List.length_append,List.length_singleton];omega
 have DG:(eS (eS iT 0 (new++Row.arm::[]).length) ([-1]:List Int).length (Row.fw::(new++Row.arm::[])).length).length=iT.length:=by rw[aE,aE]
 have G2:jx (eS (eS iT 0 (new++Row.arm::[]).length) ([-1]:List Int).length (Row.fw::(new++Row.arm::[])).length).length (Row.fw::(new++Row.arm::[])):=by
  rw[DG];exact⟨trivial,We.FD.app (b:=[.arm]) ⟨trivial,trivial⟩⟩
 have hMk:lN (f9 (eS (eS iT 0 (new++Row.arm::[]).length) ([-1]:List Int).length (Row.fw::(new++Row.arm::[])).length)) 2 iT:=fun m q1 q2=>by
  rw[dH _ (by rw[aE];show 1<_;omega) (by rw[aE];exact q2),if_neg (by show ¬1=m;exact Nat.ne_of_lt (ai q1)),dH _ (by omega) q2,if_neg (by exact Nat.ne_of_lt (ai q1))]
 generalize hmF:eS (eS iT 0 (new++Row.arm::[]).length) ([-1]:List Int).length (Row.fw::(new++Row.arm::[])).length=mF at DG G2 hMk⊢;have ZI:(Row.fw::(new++Row.arm::[])).length=new.length+2:=by rw[List.length_cons,hlen];omega
 generalize hrF:(Row.fw::(new++Row.arm::[]))=rF at G2 ZI⊢;refine hP fr rF mF [] 0 0 oW _ (aZ h1 (il ZI)) (aZ h2 (il DG)) G2 ?_;refine hC fr rF mF (rF.reverse.map (bV (f9 mF))) oW _ ?_;exact k rF mF _ oW _ ⟨by rw[List.length_map,List.length_reverse];exact aZ h1 (il ZI),rfl,new,iT,We,hrF.symm,hMk⟩
theorem Sg:∀{d:Nat},1<=d->Mk (Cd G P d)
 |0,h=>absurd h (by decide)
 |_+1,_=>Sf
theorem I9:∀{d:Nat},2<=d->xl (Cd G P d)
 |0,h=>absurd h (by decide)
 |_+1,h=>I8 (Sg (ai h))
theorem FW:∀{d:Nat},1<=d->tv (Cd G P d)
 |0,h=>absurd h (by decide)
 |_+1,_=>FU
theorem Sh{ss:List D}(Wf:SL 3 false ss):∀{d:Nat},52<=d->G0 (sv:=false) 3 (Cd G P d) ss .fw
 |0,h=>absurd h (by decide)
 |d+1,h=>LZ (jz (ai h)) (LY (ai h)) (.inr rfl) (G5 3 d (by show 20+10+10+10<=d;exact ai h) false ss Wf)
theorem OK{ss:List D}(Wf:SL 3 false ss):∀{d:Nat},54<=d->FV (Cd G P d) ss
 |0,h=>absurd h (by decide)
 |_+1,h=>OJ (I9 (ai h)) (Sh Wf (ai h)) (Mj (ai h)) (FW (ai h))
theorem xm{M:Nat->Int}:∀(new pre post:List Row),gH ((post++(new++pre)).reverse.map (bV M)) M pre.length new:=by
 intro l0
 induction l0 with
 |nil=>
  intro _ _;exact trivial
 |cons x new ih=>
  intro pre post;refine⟨?_,?_⟩
  ·have:=ih pre (post++[x]);have e:(post++[x])++(new++pre)=post++(x::new++pre):=by simp
   rw[e]at this;exact this
  ·have e:(post++(x::new++pre)).reverse.map (bV M)=(new++pre).reverse.map (bV M)++bV M x::post.reverse.map (bV M):=by simp
   refine az (e) ?_;have h:=mW ((new++pre).reverse.map (bV M)) (bV M x) (post.reverse.map (bV M));have hl:((new++pre).reverse.map (bV M)).length=pre.length+new.length:=by
    rw[List.length_map,List.length_reverse,List.length_append];omega
   rw[hl]at h;exact h
noncomputable def uA:Bk:=⟨[],Int.ofNat 0⟩
noncomputable def Si:Way->D
 |.gj=>.str bz
 |_=>.int (Int.ofNat 0)
theorem Ml{X:PX}{at_:Nat}{b:Bk}(hX:nN X)(uu:idx X.pf.R (Int.ofNat at_)=some (.tuple [.str fb]))(k:∀g γ,X.Q .next (pe X.pf.R at_ g) (eU X.pf b X.b1 (k7.N []).bb (k7.N []).bC γ [])):bP X at_ (.N []) b:=by
 intro n g γ hn;have hl:at_<X.pf.R.length:=k5 uu;have DD:=hX.len
 induction n using Nat.casesAuxOn with
 |zero=>omega
 |succ n=>
  have kk:=k g γ;refine AB fun W hW=>?_;rcases g with _|_
  all_goals
   conv=>whnf
   refine az (uu) ?_;refine aj (by unfold ah;exact aZ hl DD (aZ hl DD)) ?_;exact kk
theorem Mm{C2:Cl}{pf:PF}{ss:List D}{rr:List Row}{mr:List Int}(hW:A5 ss pf.R rr mr)(Sj:pf.gG.natAbs<=ah){γ:Nat}{Q:KV}
  (k:∀w b' gE bb bC τ,w≠.left->b'.told.length<=90000->WalkL pf (DL 3) ss (uA.tell AD) w b'->Q (.d (Si w)) (eU pf b' uA bb bC gE τ)):
  Run (Run (Run C2)) gn [.b 10,.d (.list pf.R)] (eU pf uA uA none none γ []) Q:=by
 obtain⟨new,iT,hP,L4,hM⟩:=hW.good;have hlen:=hW.len;have hR:=hW.rows;have f1:gH pf.R (f9 mr) 0 [.arm]:=by
  have:=xm (M:=f9 mr) [.arm] [] (.fw::new);refine az (hR) ?_;refine az (L4) ?_;exact this
 have f2:gH pf.R (f9 mr) 1 new:=by
  have:=xm (M:=f9 mr) new [.arm] [.fw];refine az (hR) ?_;refine az (L4) ?_;exact this
 have f3:idx pf.R (Int.ofNat (1+new.length))=some (.tuple [.str fb]):=by
  have:=(xm (M:=f9 mr) [.fw] (new++[.arm]) []).2;refine az (hR) ?_;refine az (L4) ?_;have e:(new++[Row.arm]).length+([]:List Row).length=1+new.length:=by rw[List.length_append,List.length_nil,List.length_singleton];omega
  rw[e]at this;exact this
 have e:P.code gn=(P.code gn).take 2++([.PY wH wI]++[.ret (some (.len (.var s_stack)))]):=rfl;show gz (ex G (Run (Run C2)) 60) (P.code gn) [(aM,.b 10),(bT,.d (.list pf.R))] (eU pf uA uA none none γ []) (fQ Q);refine az (e) ?_;refine bq fun R Wb=>?_;refine Wb (pe pf.R 0 none) (eU pf uA uA (k7.N []).bb none γ []) ?_;refine bq fun R2 tT=>?_;refine az (Ao) ?_;show za (DR (ev G (Run (Run C2)) 59) G.tab 59 wH) (ex G (Run (Run C2)) 59) wI DQ (pe pf.R 0 none) (eU pf uA uA (k7.N []).bb none γ []) (MC R2 (fQ Q));have go:∀X:PX,X=⟨pf,C2,uA,MC R2 (fQ Q),fun b=>∀(sk:k7) (γ:Nat),Q (.d (.str bz)) (eU pf b uA sk.bb sk.bC γ [])⟩->bP X 0 (.N []) uA:=by
  intro X W7;have ZJ:X.pf=pf:=by rw[W7]
  have hX:nN X:=by
   subst W7;exact⟨Sj,fun b ê sk γ h=>h sk γ,by show pf.R.length<=90000;omega⟩
  rw[<-ZJ]at f1 f2 f3;have hg:=hP.good X (f9 mr) hX f2 hM (by intro m q he;cases he) (uA.tell AD) (Nat.le_refl _);obtain⟨w,b',o1,a1⟩:=hg;refine Px hX f1.2 (Nat.zero_le _) ?_;rw[ZJ]at o1
  induction w using Way.casesOn with
  |left=>
   obtain⟨m,q,p,he,_⟩:=a1;cases he
  |gj=>
   refine a1.2 ?_;subst W7;exact fun sk gE=>k .gj b' gE sk.bb sk.bC [] (by intro h;rcases h with _|_) a1.1 o1
  |done=>
   have ht:b'.told.length<=1+new.length:=a1.1;have SQ:=k5 f3;rw[ZJ]at SQ;refine a1.2 (Ml hX f3 fun g gE=>?_);subst W7;refine tT _ _ ?_;have kk:=k .done b' gE (k7.N []).bb (k7.N []).bC [] (by intro h;rcases h with _|_) (jG hlen ht SQ) o1;rcases g with _|_
   all_goals
    exact kk
 have:=go _ rfl DQ none γ (by show pf.R.length<DQ+0;unfold DQ;exact ai hlen);exact this
theorem Mn{pf:PF}{ss:List D}{rr:List Row}{mr:List Int}(hW:A5 ss pf.R rr mr)(Sj:pf.gG.natAbs<=ah){γ d:Nat}{Q:KV}(hd:3<=d)
  (k:∀w b' gE bb bC τ,w≠.left->b'.told.length<=90000->WalkL pf (DL 3) ss (uA.tell AD) w b'->Q (.d (Si w)) (eU pf b' uA bb bC gE τ)):
  Cd G P d gn [.b 10,.d (.list pf.R)] (eU pf uA uA none none γ []) Q:=by
 obtain⟨d,rfl⟩:∃e,d=e+3:=⟨d-3,by exact(Nat.sub_add_cancel (ai hd)).symm⟩;exact Mm hW Sj k
noncomputable def lst(o0 o1 o2 o3 o16 o17 o18 o19:Option aL)(γ:Nat)(τ:List aL):St:=⟨[o0,o1,o2,o3,none,none,none,none,none,none,none,none,none,none,none,none,o16,o17,o18,o19],τ,γ⟩
noncomputable def FX:aL:=.dict [(qj,.fn lP),(vr,.fn l8),(Qq,.fn sO),(D1,.fn oa),(D2,.fn og),(D3,.fn oh),(gk,.fn hZ),(qV,.fn nu),(mA,.fn j4)]
structure LawC(C:Cl):Prop where
 tb:∀(o0:Option aL) (γ:Nat) (Q:KV),Q (.d .none) (lst o0 (some (GG [])) none none none none none none γ [])->C 47 [.b 1,.d (.str Yg)] (lst o0 (some (.inst 2 [])) none none none none none none γ []) Q
 plain:∀(o0 o1:Option aL) (γ:Nat) (Q:KV),Q (.b 2) (lst o0 o1 (some FX) none none none none none γ [])->C ro [] (lst o0 o1 none none none none none none γ []) Q
 task:∀(o0 o1:Option aL) (γ:Nat) (Q:KV),Q (.b 16) (lst o0 o1 (some FX) none (some qc) none none none γ [])->C tH [] (lst o0 o1 (some FX) none none none none none γ []) Q
 name:∀(o0 o1:Option aL) (γ:Nat) (Q:KV),Q (.b 17) (lst o0 o1 (some nE) none (some qc) (some oO) none none γ [])->C tL [] (lst o0 o1 (some nE) none (some qc) none none none γ []) Q
 place:∀(o0 o1:Option aL) (γ:Nat) (Q:KV),Q (.b 18) (lst o0 o1 (some nE) none (some qc) (some oO) (some pE) none γ [])->C rq [] (lst o0 o1 (some nE) none (some qc) (some oO) none none γ []) Q
theorem Sk{C:Cl}:LawC (Run C):=by
 refine⟨?_,?_,?_,?_,?_⟩
 ·intro o0 γ Q k;refine⟨Nat.le_of_ble_eq_true rfl,?_⟩;refine⟨Nat.le_of_ble_eq_true rfl,?_⟩;refine⟨Nat.le_of_ble_eq_true rfl,?_⟩;refine⟨Nat.le_of_ble_eq_true rfl,?_⟩;refine⟨Nat.le_of_ble_eq_true rfl,?_⟩;refine⟨Nat.le_of_ble_eq_true rfl,?_⟩;exact k
 ·intro o0 o1 γ Q k;exact k
 ·intro o0 o1 γ Q k;exact k
 ·intro o0 o1 γ Q k;exact k
 ·intro o0 o1 γ Q k;exact k
noncomputable def ZK:List T:=(P.code nM).take 2
noncomputable def ZL:List T:=((P.code nM).drop 2).take 2
noncomputable def ZM:List T:=((P.code nM).drop 4).take 3
noncomputable def ZN:List T:=((P.code nM).drop 7).take 2
noncomputable def ZO:List T:=(P.code nM).drop 9
theorem law_code:P.code nM=ZK++(ZL++(ZM++(ZN++ZO))):=rfl
theorem Wg{C:Cl}(hL:LawC C)(hs:oN (SL 3) (Bz 3) 3 C)(hp:lC C)(hWh:∀ss,SL 3 false ss->FV C ss)
  (LW:∀{pf:PF} {ss:List D} {rr:List Row} {mr:List Int},A5 ss pf.R rr mr->pf.gG.natAbs<=ah->∀{γ:Nat} {Q:KV},(∀w b' gE bb bC τ,w≠.left->b'.told.length<=90000->WalkL pf (DL 3) ss (uA.tell AD) w b'->Q (.d (Si w)) (eU pf b' uA bb bC gE τ))->C gn [.b 10,.d (.list pf.R)] (eU pf uA uA none none γ []) Q)
  (hm:MarkC C) (hWk:∀{pf:PF} {ss:List D} {b b':Bk} {w:Way},WalkL pf (DL 3) ss b w b'->oR C pf ss b w b') {ns:List Int} (hn:ns.length<=63) {γ:Nat}:
  Run C nM [.d (.list (ns.map PyData.int))] (lst none none none none none none none none γ []) (fun m _=>m=.d (.bool true)):=by
 have jH:(ns.map PyData.int).take 70=ns.map PyData.int:=List.take_of_length_le (by rw[List.length_map];omega);show gz (ex G C 60) (P.code nM) [(gR,.d (.list (ns.map PyData.int)))] (lst none none none none none none none none γ []) (fQ fun m _=>m=.d (.bool true));refine az (law_code) ?_;refine bq fun R hR=>?_;refine⟨by decide,?_⟩;refine⟨by rw[List.length_map];unfold ah;omega,?_⟩;refine az (jH) ?_;refine hL.tb (some (mO ns (-1) 0 12)) γ _ ?_;refine hR [(gR,.d (.list (ns.map PyData.int))),(ay,.b 0),(jM,.b 1)] (lst (some (mO ns (-1) 0 12)) (some (GG [])) none none none none none none γ []) ?_;clear hR R;refine bq fun R hR=>?_;have ZP:Bz 3=12910:=by decide
 refine hs ns 0 (-1) 0 12 [some (GG []),none,none,none,none,none,none,none,none,none,none,none,none,none,none,none,none,none,none] γ false _ (by decide) (by rw[ZP];decide) (by omega) (by decide) (by rw[ZP];decide) fun b n' ij aY bU τ hb h1 h2 h3 h4=>?_;refine⟨Nat.le_of_ble_eq_true rfl,?_⟩;refine hp ns n' ij aY bU [some (GG b),none,none,none,none,none,none,none,none,none,none,none,none,none,none,none,none,none,none] γ (Int.ofNat 531441) _ (by decide) h1 (aZ (il ZP) h2) (by omega) fun gG ha0 Hd=>?_;have Hd:gG<531441:=Hd;refine hR [(gR,.d (.list (ns.map PyData.int))),(ay,.b 0),(jM,.b 1),(g8,.d (.int gG))] (lst (some (mO ns (Int.ofNat n') aY bU)) (some (GG b)) none none none none none none γ []) ?_;clear hR R;refine bq fun R hR=>?_;refine hL.plain (some (mO ns (Int.ofNat n') aY bU)) (some (GG b)) γ _ ?_;refine hL.task (some (mO ns (Int.ofNat n') aY bU)) (some (GG b)) γ _ ?_;refine⟨by decide,?_⟩;refine hL.name (some (mO ns (Int.ofNat n') aY bU)) (some (GG b)) γ _ ?_;refine hL.place (some (mO ns (Int.ofNat n') aY bU)) (some (GG b)) γ _ ?_;refine hR [(gR,.d (.list (ns.map PyData.int))),(ay,.b 0),(jM,.b 1),(g8,.d (.int gG)),(fk,.b 2),(eg,.b 3)] (stN ⟨ns,Int.ofNat n',aY,bU,b⟩ none none none none none γ []) ?_;clear hR R;refine bq fun R hR=>?_;refine hWh b hb ⟨ns,Int.ofNat n',aY,bU,b⟩ γ _ rfl fun rr mr Rw VS τ1 hW=>?_;refine hR [(gR,.d (.list (ns.map PyData.int))),(ay,.b 0),(jM,.b 1),(g8,.d (.int gG)),(fk,.b 2),(eg,.b 3),(D7,.b 9),(nk,.t 0)] (eU ⟨⟨ns,Int.ofNat n',aY,bU,b⟩,rr,mr,0,0,Rw,gG⟩ uA uA none none VS [.list [.b 11,.b 10] []]) ?_;clear hR R;refine LW (pf:=⟨⟨ns,Int.ofNat n',aY,bU,b⟩,rr,mr,0,0,Rw,gG⟩) hW (by show gG.natAbs<=ah;unfold ah;omega) fun w b' oW bb bC SP ZQ CL hwk=>?_;refine(hm ⟨⟨ns,Int.ofNat n',aY,bU,b⟩,rr,mr,0,0,Rw,gG⟩ b' uA bb bC oW _ _).2 (by decide) ?_;refine az (GP) ?_;refine hWk hwk b' bb bC oW _ fun τ3=>?_;have e1:decide (b'.told=b'.told)=true:=decide_eq_true rfl;rcases w with _|_
 ·conv=>whnf
  refine⟨b'.told,b'.told,rfl,rfl,?_⟩;refine az (e1) ?_;rfl
 ·exact absurd rfl ZQ
 ·conv=>whnf
  refine⟨b'.told,b'.told,rfl,rfl,?_⟩;refine az (e1) ?_;rfl
theorem Sl:∀{d:Nat},1<=d->LawC (Cd G P d)
 |0,h=>absurd h (by decide)
 |_+1,_=>Sk
theorem Wh{d:Nat}(hd:80<=d){ns:List Int}(hn:ns.length<=63){γ:Nat}:Cd G P d nM [.d (.list (ns.map PyData.int))] (lst none none none none none none none none γ []) (fun m _=>m=.d (.bool true)):=by
 obtain⟨d,rfl⟩:∃e,d=e+1:=⟨d-1,by exact(Nat.sub_add_cancel (ai hd)).symm⟩;exact Wg (Sl (ai hd)) (Lg 3 d 3 (by decide) rfl (ai hd)) (lD (ai hd)) (fun ss Wf=>OK Wf (ai hd)) (fun hW ha _ _ k=>Mn hW ha (ai hd) k) (jy (ai hd)) (fun h=>h.at_ (by unfold DL;exact ai hd)) hn
end jB.F
namespace jB
open PySem PySem.W PySem.Calls PyProof.Rows
noncomputable abbrev σN:St:=F.lst none none none none none none none none 0 []
theorem xn:∀(n i:Nat) (x:Option aL),aq (List.replicate n (none:Option aL)) i=some x->x=none
 |0,_,_,h=>by cases h
 |_+1,0,_,h=>by cases h;rfl
 |n+1,i+1,x,h=>xn n i x h
theorem yY:∀(n i:Nat) (x:Option aL),aq (List.replicate n (none:Option aL)) i=some x->aq (List.replicate n (none:Option (Addr×Addr))) i=some none
 |0,_,_,h=>by cases h
 |_+1,0,_,h=>rfl
 |n+1,i+1,x,h=>yY n i x h
theorem ZR{W:Wd}{h:Heap}(up:∀b o,W.h₀.get? b=some o->h.get? b=some o):Inv W ⟨h,fun _=>.no,List.replicate 20 none,[]⟩ σN h where
 fR:=up
 gM:=fun _ _ e=>e
 lM:=fun _ _ _=>rfl
 live:=fun _ _=>rfl
 qM:=rfl
 qf:=rfl
 cb:=fun i o e=>by
  have:=xn 20 i _ e;rcases this with _|_
 cn:=fun i e=>yY 20 i _ e
 ct:=fun i o e=>by rcases e with _|_
 sb:=fun i o e=>by
  have:=xn 20 i _ e;rcases this with _|_
 DS:=fun i c r e=>by rcases e with _|_
 DT:=fun i l e=>by rcases e with _|_
theorem Ja{W:Wd}(H:iH W NN G)(HD:Am W NN P){s:Shared}(up:∀b o,W.h₀.get? b=some o->s.heap.get? b=some o){a:Addr}{ns:List Int}{as:List Addr}(hr:Reads s.heap (.ref a) (.list (ns.map PyData.int)) as)(hn:ns.length<=63){A:Around}(hA:iu 80 1 A)
  {R:Result->Shared->Prop} (k:∀s':Shared,(∀b o,s.heap.get? b=some o->s'.heap.get? b=some o)->s'.gens=s.gens->s'.os=s.os->R (.ok (.ret (.bool true))) s'):
  codeAny (model W.prog W.w) A (.call (.ref (W.fa nM)) ⟨[.ref a],[]⟩) R s:=by
 have hc:=Pn H HD 80 nM [.d (.list (ns.map PyData.int))] [.ref a] ⟨s.heap,fun _=>.no,List.replicate 20 none,[]⟩ σN s A (fun m _=>m=.d (.bool true)) hA (ZR up) ⟨⟨as,hr⟩,trivial⟩ rfl (F.Wh (Nat.le_refl _) hn);refine codeAny_mono hc fun r s' h=>?_
 match r,h with
 |.ok (.ret v),h=>
  obtain⟨m,g',aF,q,_,hv,I',P',hg,ho⟩:=h;subst q;obtain⟨bs,hb⟩:=hv;rcases hb with _|_;exact k s' (fun b o e=>(P'.fo b o e trivial).1) hg ho
end jB
namespace jB
open PySem PySem.W PyProof.Rows PySem.Challenge
section
set_option maxRecDepth 100000
inductive ZS(h:Heap)(f:Nat):Prop
 |mk (o:Obj) (fd:FuncData) (c:Addr) (oc:Obj) (vs:Array Value) (q:Str) (b:List Stmt) (sc:Scope) (ar:Arguments) (k:Value) (t:Tok) (r:List Value) (a1:h.get? (fa f)=some o) (a2:o.data=.func fd) (a3:fd.code=.ref c) (a4:h.get? c=some oc) (a5:oc.data=.fields vs) (a6:vs.toList=k::.str q t::r) (ht:textOf f=some (q,b,sc,ar))
  (c1:fd.body=.stmts b) (c2:fd.scope=sc) (c3:fd.closure=[]) (c4:fd.globals=mainGlobals) (c5:fd.builtins=builtinsNs) (c6:fd.defaults=.none) (c7:fd.params=ar) (c8:fd.qualname=q):ZS h f
structure Known(w:World)(h:Heap):Prop where
 fn:∀f<86,ZS h f
 mg:∃m,h.Ns mainGlobals m/\(∀f<86,(fnName f).cps.toList≠[]->m (fnName f)=some (.ref (fa f)))/\(∀k<4,m (clsName k)=some (.ref (ca k)))/\m ri=some (.ref 47)/\m pj=some (.ref 137)
 Nd:(K0 w.params).In h
 sys:∃o,h.get? sysModules=some o
theorem Known.keeps(w:World)(h h':Heap)(x:Known w h)(k:∀b o,h.get? b=some o->h'.get? b=some o):Known w h' where
 fn f hf:=by
  obtain⟨o,fd,c,oc,vs,q,b,sc,ar,kk,tt,rr,a1,a2,a3,a4,a5,a6,ht,c1,c2,c3,c4,c5,c6,c7,c8⟩:=x.fn f hf;exact⟨o,fd,c,oc,vs,q,b,sc,ar,kk,tt,rr,k _ _ a1,a2,a3,k _ _ a4,a5,a6,ht,c1,c2,c3,c4,c5,c6,c7,c8⟩
 mg:=by
  obtain⟨m,a,r⟩:=x.mg;exact⟨m,a.keeps k,r⟩
 Nd:=x.Nd.keeps k
 sys:=x.sys.imp fun o e=>k _ _ e
theorem FY{h:Heap}{f:Nat}{q:Str}{b:List Stmt}{sc:Scope}{ar:Arguments}(ht:textOf f=some (q,b,sc,ar))(e:yw h.get? (fa f)=some (.stmts b,sc,[],mainGlobals,builtinsNs,.none,ar,q,q)):ZS h f:=by
 refine uH e fun o ho e=>Gi e fun fd Yl e=>Ka e fun c hc e=>uH e fun oc Ym e=>HH e fun vs hvs e=>Qv e fun kk q' t r hv e=>?_;have e:=Option.some.inj e;have b9:q'=q:=congrArg (·.2.2.2.2.2.2.2.2) e;exact⟨o,fd,c,oc,vs,q,b,sc,ar,kk,t,r,ho,Yl,hc,Ym,hvs,b9▸hv,ht,congrArg (·.1) e,congrArg (·.2.1) e,congrArg (·.2.2.1) e,congrArg (·.2.2.2.1) e,congrArg (·.2.2.2.2.1) e,congrArg (·.2.2.2.2.2.1) e,congrArg (·.2.2.2.2.2.2.1) e,congrArg (·.2.2.2.2.2.2.2.1) e⟩
theorem FZ{α β:Type}{f g:α->β}:∀{l:List α},l.map f=l.map g->∀x∈l,f x=g x:=by
 intro l0
 induction l0 with
 |nil=>
  intro _ x hx;cases hx
 |cons y l ih=>
  intro e x hx;obtain⟨e1,e2⟩:=List.cons.inj e;cases hx with
  |head=>exact e1
  |tail _ hx=>exact ih e2 x hx
theorem Mo(w:World)(s:Shared)(e:obs s=val w):Known w s.heap:=by
 obtain⟨e1,e⟩:=Prod.mk.inj e;obtain⟨e2,e⟩:=Prod.mk.inj e;obtain⟨e3,e⟩:=Prod.mk.inj e;obtain⟨e4,e⟩:=Prod.mk.inj e;obtain⟨e5,e⟩:=Prod.mk.inj e;obtain⟨e6,e⟩:=Prod.mk.inj e;obtain⟨e7,e8⟩:=Prod.mk.inj e;refine⟨fun f hf=>?_,⟨_,.of_isNs e1,fun f hf hn=>?_,fun k hk=>FZ e4 k (List.mem_range.mpr hk),e5,e6⟩,?_,Option.isSome_iff_exists.mp e8⟩
 ·have e:=FZ e2 f (List.mem_range.mpr hf);unfold Kb at e;split at e
  ·rename_i q b sc ar ht;exact FY ht e
  ·rename_i ht;exfalso;have:∀f∈List.range 86,(textOf f).isSome=true:=by decide+kernel
   have:=this f (List.mem_range.mpr hf);rw[ht]at this;rcases this with _|_
 ·have e:=FZ e3 f (List.mem_range.mpr hf);split at e
  ·rename_i hq;exact absurd hq hn
  ·exact e
 ·exact Frag.in_of (as:=kA) rfl e7
end
section
set_option maxRecDepth 100000
set_option maxHeartbeats 8000000
theorem Wi:rw_pb0037_01.row.wellSaid=true:=by kernel_rfl
theorem Wj:rw_pb0037_01.wellSaid=true:=by
 unfold OpenLaw.wellSaid
 repeat' (first|with_reducible exact Wi|with_reducible refine look_both ?_ ?_|kernel_rfl)
theorem Sm:(chainsOk qv&&opensWell rw_pb0037_01.prog&&(frees rw_pb0037_01.row.toRowW&&rw_pb0037_01.row.within.isEmpty))=true:=by
 repeat' (first|with_reducible refine look_both ?_ ?_|kernel_rfl)
theorem Wk (call:∀d Mp,defOf qv ("law" :Str)=some (d,Mp)->WalkO qv l9 (fun _ _=>True) Known (OpenLaw.row rw_pb0037_01).toRowW d Mp fun f vs=>PySem.call f vs):rw_pb0037_01.Holds:=by
 refine holds_law Wj fun ZT=>?_;have⟨d,Mp,Ih,hp,hk⟩:∃d Mp,defOf qv ("law" :Str)=some (d,Mp)/\pw.theDef ("law" :Str)=some (d.params,d.body,d.scope)/\kwWritten? d.params.kwonlyargs d.params.kw_defaults=some Mp:=⟨_,_,by rfl,by rfl,by rfl⟩;exact holds_open (r:=rw_pb0037_01.row) (q:=qv) (loose:=l9) (Xt:=fun _=>true) (XP:=fun _ _=>True) (Yf:=obs) (Ya:=val) (YP:=Known) (N:=13000) Um Mo Known.keeps (fun _ _=>trivial) (fun _ _ _ _ _=>trivial)
  Ih hp hk (fun s _=>recFacts_nil rfl) rfl ZT Sm ⟨rfl,rfl,rfl,rfl,rfl,by decide+kernel⟩ ⟨[.list [.int 3,.int 1]],by decide+kernel,by decide+kernel⟩ (call d Mp Ih)
end
end jB
namespace jB
open PySem PySem.W PySem.Calls PyProof.Rows PySem.Challenge
section
set_option maxRecDepth 100000
set_option maxHeartbeats 4000000
theorem OL{h:Heap}{a:Addr}{m m':Str->Option Value}(x:h.Ns a m)(y:h.Ns a m'):m=m':=by
 refine bc fun bf=>?_;obtain⟨o,es,ep,h1,h2,_,h3⟩:=x;obtain⟨o',Nn,ep',g1,g2,_,g3⟩:=y;refine bf ?_;rw[h1]at g1;rcases g1 with _|_;rw[h2]at g2;rcases g2 with _|_;exact funext fun n=>(h3 n).symm.trans (g3 n)
noncomputable def vI(v:Value)(K:Int->Bool):Bool:=by
 induction v using Value.casesOn with
 |int i t=>exact K i
 |_=>exact false
theorem ZU{motive:Value->Prop}{v:Value}{K:Int->Bool}(h:vI v K=true)(H:∀i t,K i=true->motive (.int i t)):motive v:=by
 revert h
 induction v using Value.casesOn with
 |int i t=>exact H i t
 |_=>exact ff
noncomputable def vS(v:Value)(K:Str->Bool):Bool:=by
 induction v using Value.casesOn with
 |str i t=>exact K i
 |_=>exact false
theorem ZV{motive:Value->Prop}{v:Value}{K:Str->Bool}(h:vS v K=true)(H:∀i t,K i=true->motive (.str i t)):motive v:=by
 revert h
 induction v using Value.casesOn with
 |str i t=>exact H i t
 |_=>exact ff
noncomputable def PQ(d:D)(v:Value):Bool:=by
 induction d using PyData.casesOn with
 |int i=>exact vI v fun j=>decide (i=j)
 |str x=>exact vS v fun y=>eZ x y
 |_=>exact false
theorem Dt{h:Heap}{d:D}{v:Value}(e:PQ d v=true):Reads h v d []:=by
 revert e
 induction d using PyData.casesOn with
 |int i=>exact fun e=>ZU (motive:=fun v=>Reads h v (.int i) []) e fun j t e=>of_decide_eq_true e▸ .int i t
 |str x=>exact fun e=>ZV (motive:=fun v=>Reads h v (.str x) []) e fun y t e=>bj.mp e▸ .str x t
 |_=>exact ff
noncomputable def Mq:List D->List Value->Bool
 |[],[]=>true
 |d::ds,v::vs=>PQ d v&&Mq ds vs
 |_,_=>false
theorem Du{h:Heap}:∀{ds:List D} {vs:List Value},Mq ds vs=true->ReadsAll h vs ds []:=by
 intro ds
 induction ds with
 |nil=>
  intro vs e;rcases vs with _|⟨v,vs⟩
  ·exact .nil
  ·exact ff e
 |cons d ds ih=>
  intro vs e;rcases vs with _|⟨v,vs⟩
  ·exact ff e
  ·obtain⟨e1,e2⟩:=cx e;exact .cons (Dt e1) (ih e2)
noncomputable def Mr(v:Value):Bool:=by
 induction v using Value.casesOn with
 |type n=>exact decide (n= "tuple")
 |_=>exact false
theorem Jb{v:Value}(h:Mr v=true):v=.type "tuple" :=by
 revert h
 induction v using Value.casesOn with
 |type n=>exact fun h=>of_decide_eq_true h▸rfl
 |_=>exact ff
noncomputable def Wl(d:Data)(K:Array Value->Bool):Bool:=by
 induction d using Data.casesOn with
 |seq vs n=>exact K vs
 |_=>exact false
theorem Sn{motive:Data->Prop}{d:Data}{K:Array Value->Bool}(h:Wl d K=true)(H:∀vs n,K vs=true->motive (.seq vs n)):motive d:=by
 revert h
 induction d using Data.casesOn with
 |seq vs n=>exact H vs n
 |_=>exact ff
noncomputable def Wm(o:Obj)(ds:List D):Bool:=Mr o.cls&&Wl o.data fun vs=>Mq ds vs.toList
noncomputable def So(K:Frag)(a:Nat)(d:D):Bool:=by
 induction d using PyData.casesOn with
 |tuple ds=>exact qh (K.lookup a) fun o=>Wm o ds
 |_=>exact false
theorem Dv{K:Frag}{h:Heap}(x:K.In h){a:Nat}{d:D}(e:So K a d=true):dP h d (.ref a):=by
 revert e
 induction d using PyData.casesOn with
 |tuple ds=>
  intro e;have e:qh (K.lookup a) (fun o=>Wm o ds)=true:=e;refine qQ (motive:=fun z=>K.lookup a=z->dP h (.tuple ds) (.ref a)) e (fun o e ho=>?_) rfl;obtain⟨e1,e2⟩:=cx e;refine Sn (motive:=fun z=>o.data=z->dP h (.tuple ds) (.ref a)) e2 (fun vs n e2 hd=>?_) rfl;exact⟨[],.tuple (x _ _ ho) (Jb e1) hd (Du e2)⟩
 |_=>exact ff
noncomputable def Sp(K:Frag):List (Str×D)->List (Str×Nat×Nat)->Bool
 |[],[]=>true
 |p::l,q::r=>eZ p.1 q.1&&So K q.2.2 p.2&&Sp K l r
 |_,_=>false
theorem Dw{K:Frag}{h:Heap}(X:K.In h){P:Params}:∀{l:List (Str×D)} {r:List (Str×Nat×Nat)},Sp K l r=true->∀x,match dE x l with
  |some d=>∃v,findBy Value.isStrOf ⟨Jf P r⟩ x=some v/\dP h d v
  |none=>findBy Value.isStrOf ⟨Jf P r⟩ x=none
 |[],[],_,_=>rfl
 |p::l,q::r,e,x=>by
  refine bc fun bf=>?_;obtain⟨e,e3⟩:=Bool.and_eq_true_iff.mp e;obtain⟨e1,e2⟩:=Bool.and_eq_true_iff.mp e;refine bf ?_;have ih:=Dw X (P:=P) e3 x;have hk:findBy Value.isStrOf ⟨Jf P (q::r)⟩ x=match eZ p.1 x with|true=>some (.ref q.2.2)|false=>findBy Value.isStrOf ⟨Jf P r⟩ x:=by
   refine az (bj.mp e1) ?_;unfold findBy;rw[List.find?_toArray,List.find?_toArray];show(List.find? _ (en P q.1 q.2.1 (.ref q.2.2)::Jf P r)).map _=_;refine az (List.find?_cons) ?_;have:Value.isStrOf x (en P q.1 q.2.1 (.ref q.2.2)).key=eZ q.1 x:=(isStr_of x _).symm.trans (vY q.1 x q.2.1);refine az (this) ?_;cases eZ q.1 x<;>rfl
  refine az (hk) ?_;show match(match eZ p.1 x with|true=>some p.2|false=>dE x l)with|some d=>_|none=>_
  cases eZ p.1 x with
  |true=>exact⟨_,rfl,Dv X e2⟩
  |false=>exact ih
 |[],_::_,e,x=>by cases e
 |_::_,[],e,x=>by cases e
theorem Dx{P:Params}:∀l:List (Str×Nat×Nat),KeysLit P (Jf P l)
 |[]=>trivial
 |x::l=>⟨⟨_,_,rfl,rfl⟩,Dx l⟩
theorem Wn{f:Nat}(h:eZ (fnName f) m6=false):f<86:=by
 refine Nat.lt_of_not_le fun q=>?_;obtain⟨k,rfl⟩:=Nat.exists_eq_add_of_le' q;rcases h with _|_
noncomputable def Ms(K:Frag):Bool:=(List.range 4).all fun k=>(NN.attrs.all fun x=>findIn K (.ref (ca k)) x==some none)&&findIn K (.ref (ca k)) "__getattribute__" ==some (some (.builtin "object.__getattribute__"))&&
 findIn K (.ref (ca k)) "__setattr__" ==some (some (.builtin "object.__setattr__"))&&hasDictIn K (ca k)&&plainOver K (ca k)&&makesIn K (ca k)&&findIn K (.ref (ca k)) "__init__" ==some (some (.ref (fa (G.init k))))&&
 typeIn K (.ref (fa (G.init k)))==some (.type "function")&&keepIn K (.ref (ca k))
theorem Mt:∀P:Params,Ms (K0 P)=true:=fun P=>by kernel_rfl
theorem ZW:∀P:Params,Sp (K0 P) uG Wv=true:=fun P=>by kernel_rfl
theorem ZX:∀P:Params,So (K0 P) 137 G.tup=true:=fun P=>by kernel_rfl
theorem Wo:∀P:Params,(K0 P).lookup 47=some ⟨.type "dict",none,.dict ⟨Jf P Wv⟩ 85,#[]⟩:=fun P=>by kernel_rfl
end
section
set_option maxRecDepth 100000
set_option maxHeartbeats 4000000
noncomputable abbrev ZY(w:World)(h:Heap)(mg mb:Str->Option Value):Wd:=⟨pw,w,h,K0 w.params,fa,ca,47,mg,mb⟩
theorem classes(P:Params)(k:Nat):(((((((((NN.attrs.all fun x=>findIn (K0 P) (.ref (ca k)) x==some none)&&findIn (K0 P) (.ref (ca k)) "__getattribute__" ==some (some (.builtin "object.__getattribute__")))&&
 findIn (K0 P) (.ref (ca k)) "__setattr__" ==some (some (.builtin "object.__setattr__")))&&hasDictIn (K0 P) (ca k))&&plainOver (K0 P) (ca k))&&makesIn (K0 P) (ca k))&&findIn (K0 P) (.ref (ca k)) "__init__" ==some (some (.ref (fa (G.init k)))))&&
 typeIn (K0 P) (.ref (fa (G.init k)))==some (.type "function"))&&keepIn (K0 P) (.ref (ca k)))=true:=by
 have h:=List.all_eq_true.mp (Mt P)
 match k with
 |0=>exact h 0 (by decide)
 |1=>exact h 1 (by decide)
 |2=>exact h 2 (by decide)
 |n+3=>exact h 3 (by decide)
theorem Dy{x:Str}:∀{l:List Str},ua x l=true->x∈l
 |y::l,e=>by
  rcases Bool.or_eq_true_iff.mp e with e|e
  ·exact bj.mp e▸List.mem_cons_self
  ·exact List.mem_cons_of_mem _ (Dy e)
theorem Dz{Sq:ExcName->Option Value}{mg mb:Str->Option Value}{h:Heap}(T:Top qv (looseW qv l9) Sq mg mb h){x:Str}(hx:(!startupNames.contains x&& !(looseW qv l9).contains x&& !((recsOf qv).map (·.name)).contains x&& !((litsOf qv).map (·.1)).contains x&& !((clssOf qv (looseW qv l9)).map (·.name)).contains x)=true):mg x=none:=by
 simp only[Bool.and_eq_true,Bool.not_eq_true',<-Bool.not_eq_true,List.contains_iff_mem]at hx;exact T.free x hx.1.1.1.1 hx.1.1.1.2 hx.1.1.2 hx.1.2 hx.2
theorem wok{w:World}{h:Heap}{mg mb:Str->Option Value}{Sq:ExcName->Option Value}(T:Top qv (looseW qv l9) Sq mg mb h)(Y:Known w h):iH (ZY w h mg mb) NN G:=by
 refine bc fun bf=>?_;obtain⟨m,hm,m1,m2,m3,m4⟩:=Y.mg;refine bf ?_;cases OL hm T.g;exact{
  Nd:=Y.Nd
  g:=T.g
  b:=T.b
  fn:=fun f hf=>m1 f (Wn hf) fun q=>by
   have:eZ (fnName f) m6=true:=by unfold eZ;rw[q];rfl
   rw[show eZ (fnName f) m6=false from hf]at this;rcases this with _|_
  Qz:=fun f=>by
   have go:∀f<86,∃o fd,h.get? (fa f)=some o/\o.data=.func fd:=fun f hf=>by
    refine bc fun bf=>?_;obtain⟨o,fd,_,_,_,_,_,_,_,_,_,_,a1,a2⟩:=Y.fn f hf;refine bf ?_;exact⟨o,fd,a1,a2⟩
   by_cases hf:f<86
   ·exact go f hf
   ·have:fa f=fa 85:=by
     refine bc fun bf=>?_;obtain⟨k,rfl⟩:=Nat.exists_eq_add_of_le' (Nat.le_of_not_lt hf);refine bf ?_;rfl
    show ∃o fd,h.get? (fa f)=some o/\_;refine az (this) ?_;exact go 85 (by decide)
  cls:=fun k hk=>by
   refine m2 k ?_
   match k with
   |0=>decide
   |1=>decide
   |2=>decide
   |3=>decide
   |n+4=>rcases hk with _|_
  tab:=m3
  tup:=⟨_,m4,Dv Y.Nd (ZX _)⟩
  bl:=⟨Dz T (by kernel_rfl),T.builtins _ (by decide)⟩
  br:=⟨Dz T (by kernel_rfl),T.builtins _ (by decide)⟩
  bs:=⟨Dz T (by kernel_rfl),T.builtins _ (by decide)⟩
  Yo:=⟨Dz T (by kernel_rfl),T.builtins _ (by decide)⟩
  bt:=⟨Dz T (by kernel_rfl),T.builtins _ (by decide)⟩
  nolimit:=T.nolimit
  sys:=Y.sys
  nodigits:=T.nodigits
  Yp:=fun k x hx=>by
   have c:=classes w.params k;simp only[Bool.and_eq_true,List.all_eq_true,beq_iff_eq]at c;exact c.1.1.1.1.1.1.1.1 x (Dy hx)
  cga:=fun k=>by
   have c:=classes w.params k;simp only[Bool.and_eq_true,beq_iff_eq]at c;exact c.1.1.1.1.1.1.1.2
  csa:=fun k=>by
   have c:=classes w.params k;simp only[Bool.and_eq_true,beq_iff_eq]at c;exact c.1.1.1.1.1.1.2
  Yq:=fun k=>by
   have c:=classes w.params k;simp only[Bool.and_eq_true,beq_iff_eq]at c;exact c.1.1.1.1.1.2
  cpl:=fun k=>by
   have c:=classes w.params k;simp only[Bool.and_eq_true,beq_iff_eq]at c;exact c.1.1.1.1.2
  cmk:=fun k=>by
   have c:=classes w.params k;simp only[Bool.and_eq_true,beq_iff_eq]at c;exact c.1.1.1.2
  cin:=fun k=>by
   have c:=classes w.params k;simp only[Bool.and_eq_true,beq_iff_eq]at c;exact c.1.1.2
  cfn:=fun k=>by
   have c:=classes w.params k;simp only[Bool.and_eq_true,beq_iff_eq]at c;exact c.1.2
  ckp:=fun k=>by
   have c:=classes w.params k;simp only[Bool.and_eq_true,beq_iff_eq]at c;exact c.2
  Nf:=⟨_,mapOf_K (prog:=pw) Y.Nd (Wo _) (Dx Wv),rfl,Dw Y.Nd (ZW w.params)⟩}
noncomputable def xp{α:Type}(l:List α):Bool:=Mz l true
noncomputable def Mu{α:Type}(o:Option α):Bool:=vh o true
theorem pJ{α:Type}{l:List α}(h:xp l=true):l=[]:=tF (motive:=fun l=>l=[]) h fun _=>rfl
theorem DA{α:Type}{o:Option α}(h:Mu o=true):o=none:=qP (motive:=fun o=>o=none) h fun _=>rfl
noncomputable def Mv(ar:Arguments):Bool:=xp ar.posonlyargs&&(Mu ar.vararg&&(xp ar.kwonlyargs&&(xp ar.kw_defaults&&(Mu ar.kwarg&&xp ar.defaults))))
theorem mkA{x1 x2 x3 x4 x5 x6 x7}(g1:x1=[])(g2:x3=none)(g3:x4=[])(g4:x5=[])(g5:x6=none)(g6:x7=[]):Arguments.mk x1 x2 x3 x4 x5 x6 x7=⟨[],x2,none,[],[],none,[]⟩:=by
 rw[g1,g2,g3,g4,g5,g6]
theorem Jc{ar:Arguments}(h:Mv ar=true):ar=⟨[],ar.args,none,[],[],none,[]⟩:=by
 refine bc fun bf=>?_;obtain⟨x1,x2,x3,x4,x5,x6,x7⟩:=ar;obtain⟨h1,h⟩:=cx h;obtain⟨h2,h⟩:=cx h;obtain⟨h3,h⟩:=cx h;obtain⟨h4,h⟩:=cx h;obtain⟨h5,h6⟩:=cx h;refine bf ?_;exact mkA (pJ h1) (DA h2) (pJ h3) (pJ h4) (DA h5) (pJ h6)
noncomputable def isFn(k:ScopeKind):Bool:=by
 induction k using ScopeKind.casesOn with
 |function=>exact true
 |_=>exact false
theorem OM{k:ScopeKind}(h:isFn k=true):k=.function:=by
 revert h
 induction k using ScopeKind.casesOn with
 |function=>exact fun _=>rfl
 |_=>exact ff
theorem Wq{b:Bool}(h:(!b)=true):b=false:=by
 cases b
 ·rfl
 ·exact ff h
noncomputable def Sr(f:Nat)(b:List Stmt)(sc:Scope)(ar:Arguments):Bool:=qR (lZ NN 60 sc.names) (P.code f) b&&(decide (ar.args.map (·.arg)=P.par f)&&(decide (P.par f).Nodup&&(((P.par f).all fun y=>sc.names.lookup y==some .local||sc.names.lookup y==some .cell)&&
 (isFn sc.kind&&(!sc.isCoroutine&&(!sc.isGenerator&&((sc.names.all fun p=>p.2 != .free)&&Mv ar)))))))
noncomputable def ZZ(f:Nat):Bool:=qh (textOf f) fun x=>Sr f x.2.1 x.2.2.1 x.2.2.2
noncomputable def Ss(t:T):Bool:=by
 induction t using T.casesOn with
 |no=>exact true
 |_=>exact false
theorem ON{t:T}(h:Ss t=true):t=.no:=by
 revert h
 induction t using T.casesOn with
 |no=>exact fun _=>rfl
 |_=>exact ff
noncomputable def Su(f:Nat):Bool:=yt (P.code f) Ss
theorem Jd{l:List T}(h:yt l Ss=true):l=[.no]:=jf h fun _ h=>congrArg (fun t=>[t]) (ON h)
theorem Wr:((List.range 86).all fun f=>Su f||ZZ f)=true:=by kernel_rfl
theorem Sv{w:World}{h:Heap}{mg mb:Str->Option Value}(Y:Known w h):Am (ZY w h mg mb) NN P:=fun f=>by
 by_cases hf:f<86
 ·rcases Bool.or_eq_true_iff.mp (List.all_eq_true.mp Wr f (List.mem_range.mpr hf))with e|e
  ·exact .inr (Jd e)
  ·refine .inl ?_;refine bc fun hn=>?_;obtain⟨o,fd,c,oc,vs,q,b,sc,ar,k,t,r,a1,a2,a3,a4,a5,a6,ht,c1,c2,c3,c4,c5,c6,c7,c8⟩:=Y.fn f hf;have e:qh (textOf f) (fun x=>Sr f x.2.1 x.2.2.1 x.2.2.2)=true:=e;rw[ht]at e;have e:Sr f b sc ar=true:=e;obtain⟨e1,e⟩:=cx e;obtain⟨e2,e⟩:=cx e;obtain⟨e3,e⟩:=cx e;obtain⟨e4,e⟩:=cx e;obtain⟨e5,e⟩:=cx e;obtain⟨e6,e⟩:=cx e;obtain⟨e7,e⟩:=cx e;obtain⟨e8,e9⟩:=cx e;refine hn ⟨b,sc,⟨⟨o,fd,ar.args,a1,a2,⟨c,oc,vs,t,a3,a4,a5,?_⟩,c1,c2,c3,c4,c5,c6,c7.trans (Jc e9),of_decide_eq_true e2⟩,of_decide_eq_true e3,e4,OM e5,Wq e6,Wq e7,e8⟩,e1⟩;refine az (c8) ?_;refine Je (Array.getElem?_toList) ?_;refine az (a6) ?_;rfl
 ·refine .inr ?_;obtain⟨k,rfl⟩:=Nat.exists_eq_add_of_le' (Nat.le_of_not_lt hf);rfl
end
end jB
namespace jB
open PySem PySem.W PyProof.Rows PySem.Challenge
section
set_option maxRecDepth 100000
set_option maxHeartbeats 4000000
set_option tactic.hygienic true
theorem Ws:∀d Mp,defOf qv ("law" :Str)=some (d,Mp)->WalkO qv l9 (fun _ _=>True) Known (OpenLaw.row rw_pb0037_01).toRowW d Mp fun f vs=>PySem.call f vs:=by
 intro d Mp Ih w adl bQ mg mb G Y fa' o pm cd doc dV kV ho hd xu hD hmg hg args vals as Oi Z0 hrd ZQ VU;have T:=G.T;have Z1:d.name=fnName 85:=by
  have:(defOf qv ("law" :Str)).map (fun x=>x.1.name)=some (fnName 85):=by kernel_rfl
  rw[Ih]at this;exact Option.some.inj this
 wrow_args Oi Z0 hrd ZQ VU
 rename_i ns _ _ _ _ _ _ a _ _ _ _ _ r0 _ _ hc _;have ZC:fa'=fa nM:=by
  have h:=(wok T Y).fn 85 rfl;rw[Z1]at hmg;exact Value.ref.inj (Option.some.inj (hmg.symm.trans h))
 subst ZC;refine enter_call ?_;refine Ja (W:=ZY w bQ.heap mg mb) (wok T Y) (Sv Y) (fun _ _ e=>e) r0 (by have:=hc;omega) ⟨rfl,by decide,by decide,rfl⟩ fun s' hk Wt z9=>?_;refine GoodW.toG ⟨.inl ⟨.bool true,.bool true,[],rfl,fun _=>rfl,.bool true,?_,fun _=>⟨List.nodup_nil,fun _ h=>nomatch h⟩⟩,hk,z9,Wt.trans hg⟩
 first|decide|(show WTm.holds _ _=true;decide)|simp|(with_unfolding_all rfl)
end
end jB
theorem PySem.Challenge.cw_pb0037_01_holds : PySem.Challenge.rw_pb0037_01.Holds :=
 jB.Wk jB.Ws
