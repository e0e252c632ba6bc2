import PyProof.Rows.All
import Wide.All
import OpenK.AllK
import Wide.FinOn
import KE.KNest
import PyProof.ObjNew
import Lean
import PySem.Challenge.RW_pb0043_01
set_option Elab.async false
set_option linter.all false
set_option maxHeartbeats 4000000
set_option maxRecDepth 100000
set_option genSizeOf false
set_option bootstrap.genMatcherCode false
namespace Mine
section
variable{A B D E F G H I J K L M N O:Sort _}{C:Prop}
theorem aK{a b:Prop}(h:a/\b)(k:a->b->C):C:=k h.1 h.2
theorem cA{a b c:Prop}(h:a/\b/\c)(k:a->b->c->C):C:=aK h.2 (k h.1)
theorem ul{a b c d:Prop}(h:a/\b/\c/\d)(k:a->b->c->d->C):C:=cA h.2 (k h.1)
theorem aW{b:A->Prop}(h:∃a,b a)(k:∀a,b a->C):C:=h.elim λ a h=>k a h
theorem ac{b c:A->Prop}(h:∃a,b a/\c a)(k:∀a,b a->c a->C):C:=h.elim λ a h=>aK h (k a)
theorem bR{b c d:A->Prop}(h:∃a,b a/\c a/\d a)(k:∀a,b a->c a->d a->C):C:=h.elim λ a h=>cA h (k a)
theorem dR{b c d e:A->Prop}(h:∃a,b a/\c a/\d a/\e a)(k:∀a,b a->c a->d a->e a->C):C:=h.elim λ a h=>ul h (k a)
theorem fh{b c d e f:A->Prop}(h:∃a,b a/\c a/\d a/\e a/\f a)(k:∀a,b a->c a->d a->e a->f a->C):C:=h.elim λ a h=>k a h.1 h.2.1 h.2.2.1 h.2.2.2.1 h.2.2.2.2
theorem DM{b c d e f g:A->Prop}(h:∃a,b a/\c a/\d a/\e a/\f a/\g a)(k:∀a,b a->c a->d a->e a->f a->g a->C):C:=h.elim λ a h=>k a h.1 h.2.1 h.2.2.1 h.2.2.2.1 h.2.2.2.2.1 h.2.2.2.2.2
theorem d9{c:A->B->Prop}(h:∃a b,c a b)(k:∀a b,c a b->C):C:=h.elim λ a h=>aW h (k a)
theorem cO{c d:A->B->Prop}(h:∃a b,c a b/\d a b)(k:∀a b,c a b->d a b->C):C:=h.elim λ a h=>ac h (k a)
theorem cX{c d e:A->B->Prop}(h:∃a b,c a b/\d a b/\e a b)(k:∀a b,c a b->d a b->e a b->C):C:=h.elim λ a h=>bR h (k a)
theorem dm{c d e f:A->B->Prop}(h:∃a b,c a b/\d a b/\e a b/\f a b)(k:∀a b,c a b->d a b->e a b->f a b->C):C:=h.elim λ a h=>dR h (k a)
theorem cv{c d e f g:A->B->Prop}(h:∃a b,c a b/\d a b/\e a b/\f a b/\g a b)(k:∀a b,c a b->d a b->e a b->f a b->g a b->C):C:=h.elim λ a h=>fh h (k a)
theorem qD{c d e f g i:A->B->Prop}(h:∃a b,c a b/\d a b/\e a b/\f a b/\g a b/\i a b)(k:∀a b,c a b->d a b->e a b->f a b->g a b->i a b->C):C:=h.elim λ a h=>DM h (k a)
theorem m9{c d e f g i j l m n o p:A->B->Prop}(h:∃a b,c a b/\d a b/\e a b/\f a b/\g a b/\i a b/\j a b/\l a b/\m a b/\n a b/\o a b/\p a b)(k:∀a b,c a b->d a b->e a b->f a b->g a b->i a b->j a b->l a b->m a b->n a b->o a b->p a b->C):C:=h.elim λ a h=>h.elim λ b h=>k a b h.1 h.2.1 h.2.2.1 h.2.2.2.1 h.2.2.2.2.1 h.2.2.2.2.2.1 h.2.2.2.2.2.2.1 h.2.2.2.2.2.2.2.1 h.2.2.2.2.2.2.2.2.1 h.2.2.2.2.2.2.2.2.2.1 h.2.2.2.2.2.2.2.2.2.2.1 h.2.2.2.2.2.2.2.2.2.2.2
theorem Gv{c d e f g i j l m n o p q r:A->B->Prop}(h:∃a b,c a b/\d a b/\e a b/\f a b/\g a b/\i a b/\j a b/\l a b/\m a b/\n a b/\o a b/\p a b/\q a b/\r a b)(k:∀a b,c a b->d a b->e a b->f a b->g a b->i a b->j a b->l a b->m a b->n a b->o a b->p a b->q a b->r a b->C):C:=h.elim λ a h=>h.elim λ b h=>k a b h.1 h.2.1 h.2.2.1 h.2.2.2.1 h.2.2.2.2.1 h.2.2.2.2.2.1 h.2.2.2.2.2.2.1 h.2.2.2.2.2.2.2.1 h.2.2.2.2.2.2.2.2.1 h.2.2.2.2.2.2.2.2.2.1 h.2.2.2.2.2.2.2.2.2.2.1 h.2.2.2.2.2.2.2.2.2.2.2.1 h.2.2.2.2.2.2.2.2.2.2.2.2.1 h.2.2.2.2.2.2.2.2.2.2.2.2.2
theorem kW{d:A->B->D->Prop}(h:∃a b c,d a b c)(k:∀a b c,d a b c->C):C:=h.elim λ a h=>d9 h (k a)
theorem iK{d e:A->B->D->Prop}(h:∃a b c,d a b c/\e a b c)(k:∀a b c,d a b c->e a b c->C):C:=h.elim λ a h=>cO h (k a)
theorem cy{d e f:A->B->D->Prop}(h:∃a b c,d a b c/\e a b c/\f a b c)(k:∀a b c,d a b c->e a b c->f a b c->C):C:=h.elim λ a h=>cX h (k a)
theorem ig{d e f g:A->B->D->Prop}(h:∃a b c,d a b c/\e a b c/\f a b c/\g a b c)(k:∀a b c,d a b c->e a b c->f a b c->g a b c->C):C:=h.elim λ a h=>dm h (k a)
theorem qC{d e f g i:A->B->D->Prop}(h:∃a b c,d a b c/\e a b c/\f a b c/\g a b c/\i a b c)(k:∀a b c,d a b c->e a b c->f a b c->g a b c->i a b c->C):C:=h.elim λ a h=>cv h (k a)
theorem qB{d e f g i j:A->B->D->Prop}(h:∃a b c,d a b c/\e a b c/\f a b c/\g a b c/\i a b c/\j a b c)(k:∀a b c,d a b c->e a b c->f a b c->g a b c->i a b c->j a b c->C):C:=h.elim λ a h=>qD h (k a)
theorem jU{d e f g i j l:A->B->D->Prop}(h:∃a b c,d a b c/\e a b c/\f a b c/\g a b c/\i a b c/\j a b c/\l a b c)(k:∀a b c,d a b c->e a b c->f a b c->g a b c->i a b c->j a b c->l a b c->C):C:=h.elim λ a h=>h.elim λ b h=>h.elim λ c h=>k a b c h.1 h.2.1 h.2.2.1 h.2.2.2.1 h.2.2.2.2.1 h.2.2.2.2.2.1 h.2.2.2.2.2.2
theorem DL{d e f g i j l m:A->B->D->Prop}(h:∃a b c,d a b c/\e a b c/\f a b c/\g a b c/\i a b c/\j a b c/\l a b c/\m a b c)(k:∀a b c,d a b c->e a b c->f a b c->g a b c->i a b c->j a b c->l a b c->m a b c->C):C:=h.elim λ a h=>h.elim λ b h=>h.elim λ c h=>k a b c h.1 h.2.1 h.2.2.1 h.2.2.2.1 h.2.2.2.2.1 h.2.2.2.2.2.1 h.2.2.2.2.2.2.1 h.2.2.2.2.2.2.2
theorem JZ{d e f g i j l m n:A->B->D->Prop}(h:∃a b c,d a b c/\e a b c/\f a b c/\g a b c/\i a b c/\j a b c/\l a b c/\m a b c/\n a b c)(k:∀a b c,d a b c->e a b c->f a b c->g a b c->i a b c->j a b c->l a b c->m a b c->n a b c->C):C:=h.elim λ a h=>h.elim λ b h=>h.elim λ c h=>k a b c h.1 h.2.1 h.2.2.1 h.2.2.2.1 h.2.2.2.2.1 h.2.2.2.2.2.1 h.2.2.2.2.2.2.1 h.2.2.2.2.2.2.2.1 h.2.2.2.2.2.2.2.2
theorem eW{d e f g i j l m n o:A->B->D->Prop}(h:∃a b c,d a b c/\e a b c/\f a b c/\g a b c/\i a b c/\j a b c/\l a b c/\m a b c/\n a b c/\o a b c)(k:∀a b c,d a b c->e a b c->f a b c->g a b c->i a b c->j a b c->l a b c->m a b c->n a b c->o a b c->C):C:=h.elim λ a h=>h.elim λ b h=>h.elim λ c h=>k a b c h.1 h.2.1 h.2.2.1 h.2.2.2.1 h.2.2.2.2.1 h.2.2.2.2.2.1 h.2.2.2.2.2.2.1 h.2.2.2.2.2.2.2.1 h.2.2.2.2.2.2.2.2.1 h.2.2.2.2.2.2.2.2.2
theorem Gu{e:A->B->D->E->Prop}(h:∃a b c d,e a b c d)(k:∀a b c d,e a b c d->C):C:=h.elim λ a h=>kW h (k a)
theorem nX{e f:A->B->D->E->Prop}(h:∃a b c d,e a b c d/\f a b c d)(k:∀a b c d,e a b c d->f a b c d->C):C:=h.elim λ a h=>iK h (k a)
theorem mr{e f g:A->B->D->E->Prop}(h:∃a b c d,e a b c d/\f a b c d/\g a b c d)(k:∀a b c d,e a b c d->f a b c d->g a b c d->C):C:=h.elim λ a h=>cy h (k a)
theorem kT{e f g i:A->B->D->E->Prop}(h:∃a b c d,e a b c d/\f a b c d/\g a b c d/\i a b c d)(k:∀a b c d,e a b c d->f a b c d->g a b c d->i a b c d->C):C:=h.elim λ a h=>ig h (k a)
theorem DK{e f g i j:A->B->D->E->Prop}(h:∃a b c d,e a b c d/\f a b c d/\g a b c d/\i a b c d/\j a b c d)(k:∀a b c d,e a b c d->f a b c d->g a b c d->i a b c d->j a b c d->C):C:=h.elim λ a h=>qC h (k a)
theorem DJ{e f g i j l m:A->B->D->E->Prop}(h:∃a b c d,e a b c d/\f a b c d/\g a b c d/\i a b c d/\j a b c d/\l a b c d/\m a b c d)(k:∀a b c d,e a b c d->f a b c d->g a b c d->i a b c d->j a b c d->l a b c d->m a b c d->C):C:=h.elim λ a h=>jU h (k a)
theorem qA{e f g i j l m n:A->B->D->E->Prop}(h:∃a b c d,e a b c d/\f a b c d/\g a b c d/\i a b c d/\j a b c d/\l a b c d/\m a b c d/\n a b c d)(k:∀a b c d,e a b c d->f a b c d->g a b c d->i a b c d->j a b c d->l a b c d->m a b c d->n a b c d->C):C:=h.elim λ a h=>DL h (k a)
theorem Gs{f:A->B->D->E->F->Prop}(h:∃a b c d e,f a b c d e)(k:∀a b c d e,f a b c d e->C):C:=h.elim λ a h=>Gu h (k a)
theorem uj{f g i j:A->B->D->E->F->Prop}(h:∃a b c d e,f a b c d e/\g a b c d e/\i a b c d e/\j a b c d e)(k:∀a b c d e,f a b c d e->g a b c d e->i a b c d e->j a b c d e->C):C:=h.elim λ a h=>kT h (k a)
theorem DI{f g i j l m:A->B->D->E->F->Prop}(h:∃a b c d e,f a b c d e/\g a b c d e/\i a b c d e/\j a b c d e/\l a b c d e/\m a b c d e)(k:∀a b c d e,f a b c d e->g a b c d e->i a b c d e->j a b c d e->l a b c d e->m a b c d e->C):C:=h.elim λ a h=>h.elim λ b h=>qB h (k a b)
theorem xV{f g i j l m n o:A->B->D->E->F->Prop}(h:∃a b c d e,f a b c d e/\g a b c d e/\i a b c d e/\j a b c d e/\l a b c d e/\m a b c d e/\n a b c d e/\o a b c d e)(k:∀a b c d e,f a b c d e->g a b c d e->i a b c d e->j a b c d e->l a b c d e->m a b c d e->n a b c d e->o a b c d e->C):C:=h.elim λ a h=>qA h (k a)
theorem Qi{g:A->B->D->E->F->G->Prop}(h:∃a b c d e f,g a b c d e f)(k:∀a b c d e f,g a b c d e f->C):C:=h.elim λ a h=>Gs h (k a)
theorem DH{g i j l m:A->B->D->E->F->G->Prop}(h:∃a b c d e f,g a b c d e f/\i a b c d e f/\j a b c d e f/\l a b c d e f/\m a b c d e f)(k:∀a b c d e f,g a b c d e f->i a b c d e f->j a b c d e f->l a b c d e f->m a b c d e f->C):C:=h.elim λ a h=>h.elim λ b h=>DK h (k a b)
theorem xU{g i j l m n o:A->B->D->E->F->G->Prop}(h:∃a b c d e f,g a b c d e f/\i a b c d e f/\j a b c d e f/\l a b c d e f/\m a b c d e f/\n a b c d e f/\o a b c d e f)(k:∀a b c d e f,g a b c d e f->i a b c d e f->j a b c d e f->l a b c d e f->m a b c d e f->n a b c d e f->o a b c d e f->C):C:=h.elim λ a h=>h.elim λ b h=>DJ h (k a b)
theorem DG{g i j l m n o p:A->B->D->E->F->G->Prop}(h:∃a b c d e f,g a b c d e f/\i a b c d e f/\j a b c d e f/\l a b c d e f/\m a b c d e f/\n a b c d e f/\o a b c d e f/\p a b c d e f)(k:∀a b c d e f,g a b c d e f->i a b c d e f->j a b c d e f->l a b c d e f->m a b c d e f->n a b c d e f->o a b c d e f->p a b c d e f->C):C:=h.elim λ a h=>xV h (k a)
theorem Qh{i:A->B->D->E->F->G->H->Prop}(h:∃a b c d e f g,i a b c d e f g)(k:∀a b c d e f g,i a b c d e f g->C):C:=h.elim λ a h=>Qi h (k a)
theorem xT{i j l m n o:A->B->D->E->F->G->H->Prop}(h:∃a b c d e f g,i a b c d e f g/\j a b c d e f g/\l a b c d e f g/\m a b c d e f g/\n a b c d e f g/\o a b c d e f g)(k:∀a b c d e f g,i a b c d e f g->j a b c d e f g->l a b c d e f g->m a b c d e f g->n a b c d e f g->o a b c d e f g->C):C:=h.elim λ a h=>h.elim λ b h=>DI h (k a b)
theorem zu{i j l m n o p q r s t u:A->B->D->E->F->G->H->Prop}(h:∃a b c d e f g,i a b c d e f g/\j a b c d e f g/\l a b c d e f g/\m a b c d e f g/\n a b c d e f g/\o a b c d e f g/\p a b c d e f g/\q a b c d e f g/\r a b c d e f g/\s a b c d e f g/\t a b c d e f g/\u a b c d e f g)(k:∀a b c d e f g,i a b c d e f g->j a b c d e f g->l a b c d e f g->m a b c d e f g->n a b c d e f g->o a b c d e f g->p a b c d e f g->q a b c d e f g->r a b c d e f g->s a b c d e f g->t a b c d e f g->u a b c d e f g->C):C:=h.elim λ a h=>h.elim λ b h=>h.elim λ c h=>h.elim λ d h=>h.elim λ e h=>m9 h (k a b c d e)
theorem JY{l m n:A->B->D->E->F->G->H->I->J->Prop}(h:∃a b c d e f g i j,l a b c d e f g i j/\m a b c d e f g i j/\n a b c d e f g i j)(k:∀a b c d e f g i j,l a b c d e f g i j->m a b c d e f g i j->n a b c d e f g i j->C):C:=h.elim λ a h=>h.elim λ b h=>h.elim λ c h=>h.elim λ d h=>h.elim λ e h=>mr h (k a b c d e)
theorem xS{l m n o p q:A->B->D->E->F->G->H->I->J->Prop}(h:∃a b c d e f g i j,l a b c d e f g i j/\m a b c d e f g i j/\n a b c d e f g i j/\o a b c d e f g i j/\p a b c d e f g i j/\q a b c d e f g i j)(k:∀a b c d e f g i j,l a b c d e f g i j->m a b c d e f g i j->n a b c d e f g i j->o a b c d e f g i j->p a b c d e f g i j->q a b c d e f g i j->C):C:=h.elim λ a h=>h.elim λ b h=>xT h (k a b)
theorem uk{m n:A->B->D->E->F->G->H->I->J->K->Prop}(h:∃a b c d e f g i j l,m a b c d e f g i j l/\n a b c d e f g i j l)(k:∀a b c d e f g i j l,m a b c d e f g i j l->n a b c d e f g i j l->C):C:=h.elim λ a h=>h.elim λ b h=>h.elim λ c h=>h.elim λ d h=>h.elim λ e h=>h.elim λ f h=>nX h (k a b c d e f)
theorem DN{o:A->B->D->E->F->G->H->I->J->K->L->M->Prop}(h:∃a b c d e f g i j l m n,o a b c d e f g i j l m n)(k:∀a b c d e f g i j l m n,o a b c d e f g i j l m n->C):C:=h.elim λ a h=>h.elim λ b h=>h.elim λ c h=>h.elim λ d h=>h.elim λ e h=>Qh h (k a b c d e)
theorem Gw{q r:A->B->D->E->F->G->H->I->J->K->L->M->N->O->Prop}(h:∃a b c d e f g i j l m n o p,q a b c d e f g i j l m n o p/\r a b c d e f g i j l m n o p)(k:∀a b c d e f g i j l m n o p,q a b c d e f g i j l m n o p->r a b c d e f g i j l m n o p->C):C:=h.elim λ a h=>h.elim λ b h=>h.elim λ c h=>h.elim λ d h=>uk h (k a b c d)
end
section
variable{A B D E F G H I J K L M:Sort _}
theorem bN{a b c:Prop}(f:a)(e:b)(d:c):a/\b/\c:=⟨f,e,d⟩
theorem oW{a b c d:Prop}(h:a)(g:b)(f:c)(e:d):a/\b/\c/\d:=⟨h,bN g f e⟩
theorem NF{a b c d e f:Prop}(l:a)(k:b)(j:c)(i:d)(h:e)(g:f):a/\b/\c/\d/\e/\f:=⟨l,k,oW j i h g⟩
theorem aw{b c:A->Prop}(a:A)(e:b a)(d:c a):∃a,b a/\c a:=⟨a,e,d⟩
theorem cR{b c d:A->Prop}(a:A)(g:b a)(f:c a)(e:d a):∃a,b a/\c a/\d a:=⟨a,bN g f e⟩
theorem dP{b c d e:A->Prop}(a:A)(i:b a)(h:c a)(g:d a)(f:e a):∃a,b a/\c a/\d a/\e a:=⟨a,oW i h g f⟩
theorem jk{b c d e f:A->Prop}(a:A)(k:b a)(j:c a)(i:d a)(h:e a)(g:f a):∃a,b a/\c a/\d a/\e a/\f a:=⟨a,k,j,i,h,g⟩
theorem xA{b c d e f g:A->Prop}(a:A)(m:b a)(l:c a)(k:d a)(j:e a)(i:f a)(h:g a):∃a,b a/\c a/\d a/\e a/\f a/\g a:=⟨a,NF m l k j i h⟩
theorem im{c:A->B->Prop}(a:A)(b:B)(d:c a b):∃a b,c a b:=⟨a,b,d⟩
theorem ff{c d:A->B->Prop}(a:A)(b:B)(f:c a b)(e:d a b):∃a b,c a b/\d a b:=⟨a,aw b f e⟩
theorem c9{c d e:A->B->Prop}(a:A)(b:B)(h:c a b)(g:d a b)(f:e a b):∃a b,c a b/\d a b/\e a b:=⟨a,cR b h g f⟩
theorem gj{c d e f:A->B->Prop}(a:A)(b:B)(j:c a b)(i:d a b)(h:e a b)(g:f a b):∃a b,c a b/\d a b/\e a b/\f a b:=⟨a,dP b j i h g⟩
theorem fN{c d e f g:A->B->Prop}(a:A)(b:B)(l:c a b)(k:d a b)(j:e a b)(i:f a b)(h:g a b):∃a b,c a b/\d a b/\e a b/\f a b/\g a b:=⟨a,jk b l k j i h⟩
theorem tX{c d e f g i:A->B->Prop}(a:A)(b:B)(n:c a b)(m:d a b)(l:e a b)(k:f a b)(j:g a b)(h:i a b):∃a b,c a b/\d a b/\e a b/\f a b/\g a b/\i a b:=⟨a,xA b n m l k j h⟩
theorem CM{c d e f g i j l:A->B->Prop}(a:A)(b:B)(r:c a b)(q:d a b)(p:e a b)(o:f a b)(n:g a b)(m:i a b)(k:j a b)(h:l a b):∃a b,c a b/\d a b/\e a b/\f a b/\g a b/\i a b/\j a b/\l a b:=⟨a,b,r,q,p,o,n,m,k,h⟩
theorem y7{c d e f g i j l m n o p:A->B->Prop}(a:A)(b:B)(x:c a b)(w:d a b)(v:e a b)(u:f a b)(t:g a b)(s:i a b)(r:j a b)(q:l a b)(k:m a b)(h:n a b)(z:o a b)(y:p a b):∃a b,c a b/\d a b/\e a b/\f a b/\g a b/\i a b/\j a b/\l a b/\m a b/\n a b/\o a b/\p a b:=⟨a,b,x,w,v,u,t,s,r,q,k,h,z,y⟩
theorem Ah{d:A->B->D->Prop}(a:A)(b:B)(c:D)(e:d a b c):∃a b c,d a b c:=⟨a,im b c e⟩
theorem jR{d e:A->B->D->Prop}(a:A)(b:B)(c:D)(g:d a b c)(f:e a b c):∃a b c,d a b c/\e a b c:=⟨a,ff b c g f⟩
theorem gN{d e f:A->B->D->Prop}(a:A)(b:B)(c:D)(i:d a b c)(h:e a b c)(g:f a b c):∃a b c,d a b c/\e a b c/\f a b c:=⟨a,c9 b c i h g⟩
theorem gM{d e f g:A->B->D->Prop}(a:A)(b:B)(c:D)(k:d a b c)(j:e a b c)(i:f a b c)(h:g a b c):∃a b c,d a b c/\e a b c/\f a b c/\g a b c:=⟨a,gj b c k j i h⟩
theorem qj{d e f g i:A->B->D->Prop}(a:A)(b:B)(c:D)(m:d a b c)(l:e a b c)(k:f a b c)(j:g a b c)(h:i a b c):∃a b c,d a b c/\e a b c/\f a b c/\g a b c/\i a b c:=⟨a,fN b c m l k j h⟩
theorem qi{d e f g i j:A->B->D->Prop}(a:A)(b:B)(c:D)(o:d a b c)(n:e a b c)(m:f a b c)(l:g a b c)(k:i a b c)(h:j a b c):∃a b c,d a b c/\e a b c/\f a b c/\g a b c/\i a b c/\j a b c:=⟨a,tX b c o n m l k h⟩
theorem kK{d e f g i j l:A->B->D->Prop}(a:A)(b:B)(c:D)(q:d a b c)(p:e a b c)(o:f a b c)(n:g a b c)(m:i a b c)(k:j a b c)(h:l a b c):∃a b c,d a b c/\e a b c/\f a b c/\g a b c/\i a b c/\j a b c/\l a b c:=⟨a,b,c,q,p,o,n,m,k,h⟩
theorem m5{d e f g i j l m n o:A->B->D->Prop}(a:A)(b:B)(c:D)(w:d a b c)(v:e a b c)(u:f a b c)(t:g a b c)(s:i a b c)(r:j a b c)(q:l a b c)(p:m a b c)(k:n a b c)(h:o a b c):∃a b c,d a b c/\e a b c/\f a b c/\g a b c/\i a b c/\j a b c/\l a b c/\m a b c/\n a b c/\o a b c:=⟨a,b,c,w,v,u,t,s,r,q,p,k,h⟩
theorem tW{e f g:A->B->D->E->Prop}(a:A)(b:B)(c:D)(d:E)(j:e a b c d)(i:f a b c d)(h:g a b c d):∃a b c d,e a b c d/\f a b c d/\g a b c d:=⟨a,gN b c d j i h⟩
theorem me{e f g i:A->B->D->E->Prop}(a:A)(b:B)(c:D)(d:E)(l:e a b c d)(k:f a b c d)(j:g a b c d)(h:i a b c d):∃a b c d,e a b c d/\f a b c d/\g a b c d/\i a b c d:=⟨a,gM b c d l k j h⟩
theorem nP{e f g i j l m n:A->B->D->E->Prop}(a:A)(b:B)(c:D)(d:E)(t:e a b c d)(s:f a b c d)(r:g a b c d)(q:i a b c d)(p:j a b c d)(o:l a b c d)(k:m a b c d)(h:n a b c d):∃a b c d,e a b c d/\f a b c d/\g a b c d/\i a b c d/\j a b c d/\l a b c d/\m a b c d/\n a b c d:=⟨a,b,CM c d t s r q p o k h⟩
theorem Jc{f:A->B->D->E->F->Prop}(a:A)(b:B)(c:D)(d:E)(e:F)(g:f a b c d e):∃a b c d e,f a b c d e:=⟨a,b,Ah c d e g⟩
theorem Jb{f g i j:A->B->D->E->F->Prop}(a:A)(b:B)(c:D)(d:E)(e:F)(m:f a b c d e)(l:g a b c d e)(k:i a b c d e)(h:j a b c d e):∃a b c d e,f a b c d e/\g a b c d e/\i a b c d e/\j a b c d e:=⟨a,me b c d e m l k h⟩
theorem xz{f g i j l m n o:A->B->D->E->F->Prop}(a:A)(b:B)(c:D)(d:E)(e:F)(u:f a b c d e)(t:g a b c d e)(s:i a b c d e)(r:j a b c d e)(q:l a b c d e)(p:m a b c d e)(k:n a b c d e)(h:o a b c d e):∃a b c d e,f a b c d e/\g a b c d e/\i a b c d e/\j a b c d e/\l a b c d e/\m a b c d e/\n a b c d e/\o a b c d e:=⟨a,nP b c d e u t s r q p k h⟩
theorem Ja{g:A->B->D->E->F->G->Prop}(a:A)(b:B)(c:D)(d:E)(e:F)(f:G)(h:g a b c d e f):∃a b c d e f,g a b c d e f:=⟨a,Jc b c d e f h⟩
theorem I9{g i j l m:A->B->D->E->F->G->Prop}(a:A)(b:B)(c:D)(d:E)(e:F)(f:G)(p:g a b c d e f)(o:i a b c d e f)(n:j a b c d e f)(k:l a b c d e f)(h:m a b c d e f):∃a b c d e f,g a b c d e f/\i a b c d e f/\j a b c d e f/\l a b c d e f/\m a b c d e f:=⟨a,b,c,qj d e f p o n k h⟩
theorem CL{g i j l m n o:A->B->D->E->F->G->Prop}(a:A)(b:B)(c:D)(d:E)(e:F)(f:G)(t:g a b c d e f)(s:i a b c d e f)(r:j a b c d e f)(q:l a b c d e f)(p:m a b c d e f)(k:n a b c d e f)(h:o a b c d e f):∃a b c d e f,g a b c d e f/\i a b c d e f/\j a b c d e f/\l a b c d e f/\m a b c d e f/\n a b c d e f/\o a b c d e f:=⟨a,b,c,kK d e f t s r q p k h⟩
theorem CK{g i j l m n o p:A->B->D->E->F->G->Prop}(a:A)(b:B)(c:D)(d:E)(e:F)(f:G)(v:g a b c d e f)(u:i a b c d e f)(t:j a b c d e f)(s:l a b c d e f)(r:m a b c d e f)(q:n a b c d e f)(k:o a b c d e f)(h:p a b c d e f):∃a b c d e f,g a b c d e f/\i a b c d e f/\j a b c d e f/\l a b c d e f/\m a b c d e f/\n a b c d e f/\o a b c d e f/\p a b c d e f:=⟨a,xz b c d e f v u t s r q k h⟩
theorem ND{i:A->B->D->E->F->G->H->Prop}(a:A)(b:B)(c:D)(d:E)(e:F)(f:G)(g:H)(h:i a b c d e f g):∃a b c d e f g,i a b c d e f g:=⟨a,Ja b c d e f g h⟩
theorem xy{i j l m n o:A->B->D->E->F->G->H->Prop}(a:A)(b:B)(c:D)(d:E)(e:F)(f:G)(g:H)(s:i a b c d e f g)(r:j a b c d e f g)(q:l a b c d e f g)(p:m a b c d e f g)(k:n a b c d e f g)(h:o a b c d e f g):∃a b c d e f g,i a b c d e f g/\j a b c d e f g/\l a b c d e f g/\m a b c d e f g/\n a b c d e f g/\o a b c d e f g:=⟨a,b,c,d,qi e f g s r q p k h⟩
theorem y6{i j l m n o p q r s t u:A->B->D->E->F->G->H->Prop}(a:A)(b:B)(c:D)(d:E)(e:F)(f:G)(g:H)(U:i a b c d e f g)(Q:j a b c d e f g)(O:l a b c d e f g)(z:m a b c d e f g)(y:n a b c d e f g)(x:o a b c d e f g)(w:p a b c d e f g)(v:q a b c d e f g)(k:r a b c d e f g)(h:s a b c d e f g)(HD:t a b c d e f g)(Y:u a b c d e f g):∃a b c d e f g,i a b c d e f g/\j a b c d e f g/\l a b c d e f g/\m a b c d e f g/\n a b c d e f g/\o a b c d e f g/\p a b c d e f g/\q a b c d e f g/\r a b c d e f g/\s a b c d e f g/\t a b c d e f g/\u a b c d e f g:=⟨a,b,c,d,e,y7 f g U Q O z y x w v k h HD Y⟩
theorem CJ{l m:A->B->D->E->F->G->H->I->J->Prop}(a:A)(b:B)(c:D)(d:E)(e:F)(f:G)(g:H)(i:I)(j:J)(k:l a b c d e f g i j)(h:m a b c d e f g i j):∃a b c d e f g i j,l a b c d e f g i j/\m a b c d e f g i j:=⟨a,b,c,d,e,f,jR g i j k h⟩
theorem I8{l m n:A->B->D->E->F->G->H->I->J->Prop}(a:A)(b:B)(c:D)(d:E)(e:F)(f:G)(g:H)(i:I)(j:J)(o:l a b c d e f g i j)(k:m a b c d e f g i j)(h:n a b c d e f g i j):∃a b c d e f g i j,l a b c d e f g i j/\m a b c d e f g i j/\n a b c d e f g i j:=⟨a,b,c,d,e,tW f g i j o k h⟩
theorem tV{l m n o p q:A->B->D->E->F->G->H->I->J->Prop}(a:A)(b:B)(c:D)(d:E)(e:F)(f:G)(g:H)(i:I)(j:J)(u:l a b c d e f g i j)(t:m a b c d e f g i j)(s:n a b c d e f g i j)(r:o a b c d e f g i j)(k:p a b c d e f g i j)(h:q a b c d e f g i j):∃a b c d e f g i j,l a b c d e f g i j/\m a b c d e f g i j/\n a b c d e f g i j/\o a b c d e f g i j/\p a b c d e f g i j/\q a b c d e f g i j:=⟨a,b,xy c d e f g i j u t s r k h⟩
theorem FY{m n:A->B->D->E->F->G->H->I->J->K->Prop}(a:A)(b:B)(c:D)(d:E)(e:F)(f:G)(g:H)(i:I)(j:J)(l:K)(k:m a b c d e f g i j l)(h:n a b c d e f g i j l):∃a b c d e f g i j l,m a b c d e f g i j l/\n a b c d e f g i j l:=⟨a,CJ b c d e f g i j l k h⟩
theorem NE{o:A->B->D->E->F->G->H->I->J->K->L->M->Prop}(a:A)(b:B)(c:D)(d:E)(e:F)(f:G)(g:H)(i:I)(j:J)(l:K)(m:L)(n:M)(h:o a b c d e f g i j l m n):∃a b c d e f g i j l m n,o a b c d e f g i j l m n:=⟨a,b,c,d,e,ND f g i j l m n h⟩
end
theorem ak{α:Type}{a:α}{l:List α}:(a::l)[0]?= some a:=rfl
theorem aq{α:Type}{a:α}{l:List α}{i:Nat}:(a::l)[i+1]?= l[i]? :=rfl
theorem am{α:Type}{a b:α}:(some a).getD b=a:=rfl
theorem aN{α:Type}{a b:α}{l:List α}:(a::l).set 0 b=b::l:=rfl
theorem aO{α:Type}{a b:α}{l:List α}{i:Nat}:(a::l).set (i+1) b=a::l.set i b:=rfl
theorem bT{α:Type}{l:List α}{i:Nat}(h:i<l.length):l[i]?= some l[i]:=List.getElem?_eq_getElem h
theorem cw{α:Type}{a:α}{l:List α}{i:Nat}:l[i]?= some a↔ ∃h:i<l.length,l[i]=a:=List.getElem?_eq_some_iff
theorem bq{p:Prop}[i:Decidable p](h:p):decide p=true:=decide_eq_true h
theorem bA{p:Prop}[i:Decidable p](h: ¬ p):decide p=false:=decide_eq_false h
theorem dF{α:Type}{a b:α}:a∈[b]↔a=b:=List.mem_singleton
theorem bo{α a:Type}{l:List α}(f:α->a):(l.map f).length=l.length:=List.length_map f
theorem cg{α a:Type}{f:α->a}{l:List α}{i:Nat}:(l.map f)[i]?= l[i]?.map f:=List.getElem?_map
theorem an{α:Type}{a b:α}(h:some a=some b):a=b:=Option.some.inj h
theorem bZ{α:Type}(f:α->Nat){a b:α}{C:Prop}(h:a=b)(q:Nat.beq (f a) (f b)=false):C:=by rw[h,Nat.beq_refl]at q;exact absurd q (by decide)
theorem dk{α:Type}{x:α}{C:Prop}(h:some x=none):C:=nomatch h
theorem aD{α:Type}{x:α}{C:Prop}(h:none=some x):C:=nomatch h
theorem uD{α:Type}(f:α->Nat){a b:α}{C:Prop}(h:some a=some b)(q:Nat.beq (f a) (f b)=false):C:=bZ f (an h) q
theorem bQ{α:Type}{a:α}{C:Prop}(h:a∈ ([]:List α)):C:=nomatch h
theorem Bh{α:Type}{l:List α}(h:l.length=2):∃a b,l=[a,b]:=by
 rcases l with _|⟨a,_|⟨b,_|⟨c,r⟩⟩⟩
 ·exact bZ Nat.ctorIdx h rfl
 ·exact bZ Nat.ctorIdx (Nat.succ.inj h) rfl
 ·exact im a b rfl
 ·exact bZ Nat.ctorIdx (Nat.succ.inj (Nat.succ.inj h)) rfl
theorem m2{x:Nat}:∀a,a∈[x]->a∈ ([]:List Nat)∨x<=a:=λ _ h=>.inr (Nat.le_of_eq (dF.mp h).symm)
theorem Bt{x y:Nat}:∀a,a∈[x]->a∈[y,x]:=λ _ h=>.tail _ h
theorem XK{x y:Nat}:∀a,a∈[x]->a∈[x,y]:=λ _ h=>dF.mp h▸ .head _
theorem Br{x y z:Nat}:∀a,a∈[x,y]->a∈[x,y,z]:=λ _ h=>List.mem_append_left [z] h
theorem jh{x y:Nat}(h:x≠y): ¬ x∈[y]:=λ q=>h (dF.mp q)
theorem wM{x y z:Nat}(h:x≠y)(k:x≠z): ¬ x∈[y,z]:=λ q=>(List.mem_cons.mp q).elim h (jh k)
section
universe u
@[elab_as_elim] theorem aU {α:Sort u} {a b:α} {motive:α->Prop} (h:a=b) (q:motive b):motive a:=h.symm▸q
@[elab_as_elim] theorem fM {α:Sort u} {a b:α} {motive:α->Prop} (h:a=b) (q:motive a):motive b:=h▸q
end
local macro_rules
  | `(tactic| erw [$[$r:term],*]) => do
    let mut o ← `(tactic| skip)
    for x in r do o ← `(tactic| ($o; refine Mine.aU $x ?_))
    return o
local macro_rules
  | `(tactic| rwa [$[$r:term],*]) => do
    let b := match r[1]! with
      | `($f $x*) => #[f] ++ x
      | y => #[y]
    let mut o ← `(tactic| refine $(r[0]!) fun $(b.map (⟨·.raw⟩))* => ?_)
    for x in r[2:] do
      o ← match x with
        | `(-$y:ident) => `(tactic| ($o; try clear $y))
        | `($y) => `(tactic| ($o; subst $y))
    return o
section
set_option genSizeOf false
set_option genInjectivity false
set_option genCtorIdx false
namespace L
noncomputable def AM{α:Type}(d:α):List α->Nat->α
 | [],_=>d
 |x::r,k=>match k with
  |0=>x
  |k+1=>AM d r k
inductive N where
 |v (i:Nat)|c (k:Nat)|a (x y:N)|m (k:Nat) (x:N)|n (x:N) (k:Nat)
inductive Z where
 |v (i:Nat)|c (k:Nat)|a (x y:Z)|s (x y:Z)|g (x:Z)|m (k:Nat) (x:Z)|n (x:Z) (k:Nat)|t (x:N)
inductive P where
 |i (x y:N)|j (x y:N)|k (x y:N)|l (x y:Z)|p (x y:Z)|q (x y:Z)|e (x y:P)|o (x y:P)|n (x:P)|z
noncomputable def N.d(u:List Nat):N->Nat
 | .v i=>AM 0 u i
 | .c k=>k
 | .a x y=>x.d u+y.d u
 | .m k x=>k * x.d u
 | .n x k=>x.d u * k
noncomputable def Z.d(u:List Nat)(w:List Int):Z->Int
 | .v i=>AM 0 w i
 | .c k=>Int.ofNat k
 | .a x y=>x.d u w+y.d u w
 | .s x y=>x.d u w - y.d u w
 | .g x=> - x.d u w
 | .m k x=>Int.ofNat k * x.d u w
 | .n x k=>x.d u w * Int.ofNat k
 | .t x=>Int.ofNat (x.d u)
noncomputable def P.d(u:List Nat)(w:List Int):P->Prop
 | .i x y=>x.d u<=y.d u
 | .j x y=>x.d u<y.d u
 | .k x y=>x.d u=y.d u
 | .l x y=>x.d u w<=y.d u w
 | .p x y=>x.d u w<y.d u w
 | .q x y=>x.d u w=y.d u w
 | .e x y=>x.d u w/\y.d u w
 | .o x y=>x.d u w∨y.d u w
 | .n x=> ¬ x.d u w
 | .z=>False
structure S where
 k:Nat
 n:List Nat
 z:List Nat
noncomputable def uB:List Nat->List Nat->List Nat
 | [],y=>y
 |a::x,y=>match y with
  | []=>a::x
  |b::y=>(a+b)::uB x y
noncomputable def tD(k:Nat):List Nat->List Nat
 | []=> []
 |a::x=>(k * a)::tD k x
noncomputable def one:Nat->List Nat
 |0=> [1]
 |i+1=>0::one i
noncomputable def dn:List Nat->List Nat->Nat
 | [],_=>0
 |a::x,u=>match u with
  | []=>0
  |b::u=>a * b+dn x u
noncomputable def dz:List Nat->List Int->Int
 | [],_=>0
 |a::x,u=>match u with
  | []=>0
  |b::u=>(a:Int) * b+dz x u
noncomputable def S.add(x y:S):S:=⟨x.k+y.k,uB x.n y.n,uB x.z y.z⟩
noncomputable def S.mul(k:Nat)(x:S):S:=⟨k * x.k,tD k x.n,tD k x.z⟩
noncomputable def S.d(u:List Nat)(w:List Int)(x:S):Int:=((x.k+dn x.n u:Nat):Int)+dz x.z w
noncomputable def N.s:N->S
 | .v i=>⟨0,one i,[]⟩
 | .c k=>⟨k,[],[]⟩
 | .a x y=>x.s.add y.s
 | .m k x=>x.s.mul k
 | .n x k=>x.s.mul k
noncomputable def S.z0:S:=⟨0,[],[]⟩
structure D where
 p:S
 m:S
noncomputable def D.add(x y:D):D:=⟨x.p.add y.p,x.m.add y.m⟩
noncomputable def D.neg(x:D):D:=⟨x.m,x.p⟩
noncomputable def D.mul(k:Nat)(x:D):D:=⟨x.p.mul k,x.m.mul k⟩
noncomputable def D.d(u:List Nat)(w:List Int)(x:D):Int:=x.p.d u w - x.m.d u w
noncomputable def Z.q:Z->D
 | .v i=>⟨⟨0,[],one i⟩,.z0⟩
 | .c k=>⟨⟨k,[],[]⟩,.z0⟩
 | .a x y=>x.q.add y.q
 | .s x y=>x.q.add y.q.neg
 | .g x=>x.q.neg
 | .m k x=>x.q.mul k
 | .n x k=>x.q.mul k
 | .t x=>⟨x.s,.z0⟩
noncomputable def Fc:D:=⟨⟨1,[],[]⟩,.z0⟩
noncomputable def vj(x:N):D:=⟨x.s,.z0⟩
noncomputable def le(x y:D):D:=x.add y.neg
noncomputable def lt(x y:D):D:=(le x y).add Fc
noncomputable def P.f:P->List D
 | .i x y=> [le (vj x) (vj y)]
 | .j x y=> [lt (vj x) (vj y)]
 | .k x y=> [le (vj x) (vj y),le (vj y) (vj x)]
 | .l x y=> [le x.q y.q]
 | .p x y=> [lt x.q y.q]
 | .q x y=> [le x.q y.q,le y.q x.q]
 | .e x y=>x.f++y.f
 | .o _ _=> []
 | .n x=>match x with
  | .i x y=> [lt (vj y) (vj x)]
  | .j x y=> [le (vj y) (vj x)]
  | .l x y=> [lt y.q x.q]
  | .p x y=> [le y.q x.q]
  |_=> []
 | .z=> [Fc]
noncomputable def P.alt:P->P×P
 | .o x y=>(x,y)
 | .n x=>match x with
  | .k x y=>(.j x y,.j y x)
  | .q x y=>(.p x y,.p y x)
  | .e x y=>(.n x,.n y)
  | .o x y=>(.e (.n x) (.n y),.e (.n x) (.n y))
  | .n x=>(x,x)
  |x=>(.n x,.n x)
 |x=>(x,x)
inductive C where
 |l (ks:List Nat)|s (i:Nat) (x y:C)
noncomputable def GH:List Nat->List D->D
 | [],_=>⟨.z0,.z0⟩
 |k::b,a=>match a with
  | []=>⟨.z0,.z0⟩
  |f::a=>(f.mul k).add (GH b a)
noncomputable def RX:List Nat->List Nat->Bool
 | [],y=>y.all λ b=>Nat.beq b 0
 |a::x,y=>match y with
  | []=>true
  |b::y=>Nat.ble b a&&RX x y
noncomputable def K1:List Nat->List Nat->Bool
 | [],y=>y.all λ b=>Nat.beq b 0
 |a::x,y=>match y with
  | []=>Nat.beq a 0&&K1 x []
  |b::y=>Nat.beq a b&&K1 x y
noncomputable def D.no(x:D):Bool:=Nat.blt x.m.k x.p.k&&RX x.p.n x.m.n&&K1 x.p.z x.m.z
noncomputable def Ds:List P->List D
 | []=> []
 |p::r=>p.f++Ds r
noncomputable def C.ok:C->List P->Bool
 | .l b,a=>(GH b (Ds a)).no
 | .s i x y,a=>x.ok ((AM (.n .z) a i).alt.1::a)&&y.ok ((AM (.n .z) a i).alt.2::a)
noncomputable def imp(u:List Nat)(w:List Int)(g:P):List P->Prop
 | []=>g.d u w
 |p::r=>p.d u w->imp u w g r
theorem Vf(a b c d:Int):a+b+(c+d)=a+c+(b+d):=by rw[Int.add_assoc,Int.add_assoc,Int.add_left_comm b]
theorem isc(a b c d:Int):a+b - (c+d)=(a - c)+(b - d):=by rw[Int.sub_eq_add_neg,Int.neg_add,Vf,← Int.sub_eq_add_neg,← Int.sub_eq_add_neg]
theorem qF(u:List Nat):dn [] u=0:=by cases u<;> rfl
theorem R7(x:List Nat):dn x []=0:=by cases x<;> rfl
theorem R6(x:List Nat):dz x []=0:=by cases x<;> rfl
theorem DU:∀ (x y u:List Nat),dn (uB x y) u=dn x u+dn y u
 | [],y,u=>(Nat.zero_add _).symm
 |a::x,[],u=>rfl
 |a::x,b::y,[]=>rfl
 |a::x,b::y,c::u=>by show(a+b) * c+dn (uB x y) u=(a * c+dn x u)+(b * c+dn y u);rw[DU x y u,Nat.add_mul];exact Nat.add_add_add_comm ..
theorem DQ:∀ (x y:List Nat) (u:List Int),dz (uB x y) u=dz x u+dz y u
 | [],y,u=>(Int.zero_add _).symm
 |a::x,[],u=>(Int.add_zero _).symm
 |a::x,b::y,[]=>rfl
 |a::x,b::y,c::u=>by show((a+b:Nat):Int) * c+dz (uB x y) u=(a * c+dz x u)+(b * c+dz y u);rw[DQ x y u,Int.natCast_add,Int.add_mul];exact Vf ..
theorem DT(k:Nat):∀ (x u:List Nat),dn (tD k x) u=k * dn x u
 | [],u=>rfl
 |a::x,[]=>rfl
 |a::x,c::u=>by show(k * a) * c+dn (tD k x) u=k * (a * c+dn x u);rw[DT k x u,Nat.mul_add,Nat.mul_assoc]
theorem DP(k:Nat):∀ (x:List Nat) (u:List Int),dz (tD k x) u=k * dz x u
 | [],u=>(Int.mul_zero _).symm
 |a::x,[]=>(Int.mul_zero _).symm
 |a::x,c::u=>by show((k * a:Nat):Int) * c+dz (tD k x) u=k * (a * c+dz x u);rw[DP k x u,Int.mul_add,Int.natCast_mul,Int.mul_assoc]
theorem DS:∀ (i:Nat) (u:List Nat),dn (one i) u=AM 0 u i
 |0,[]=>rfl
 |i+1,[]=>rfl
 |0,a::u=>by show 1 * a+dn [] u=a;rw[qF,Nat.one_mul];rfl
 |i+1,a::u=>by show 0 * a+dn (one i) u=AM 0 u i;rw[DS i u,Nat.zero_mul,Nat.zero_add]
theorem DO:∀ (i:Nat) (u:List Int),dz (one i) u=AM 0 u i
 |0,[]=>rfl
 |i+1,[]=>rfl
 |0,a::u=>by show((1:Nat):Int) * a+dz [] u=a;show 1 * a+(0:Int)=a;rw[Int.one_mul,Int.add_zero]
 |i+1,a::u=>by show(0:Int) * a+dz (one i) u=AM 0 u i;rw[DO i u,Int.zero_mul,Int.zero_add]
section
variable{u:List Nat}{w:List Int}
theorem S.nh(x y:S):(x.add y).d u w=x.d u w+y.d u w:=by show((x.k+y.k+dn (uB x.n y.n) u:Nat):Int)+dz (uB x.z y.z) w=_;rw[DU,DQ,Nat.add_add_add_comm,Int.natCast_add];exact Vf ..
theorem S.oN(k:Nat)(x:S):(x.mul k).d u w=k * x.d u w:=by show((k * x.k+dn (tD k x.n) u:Nat):Int)+dz (tD k x.z) w=k * (((x.k+dn x.n u:Nat):Int)+dz x.z w);rw[DT,DP,← Nat.mul_add,Int.mul_add,Int.natCast_mul]
theorem S.R9(k:Nat):(⟨k,[],[]⟩:S).d u w=k:=by show((k+dn [] u:Nat):Int)+(0:Int)=k;rw[qF,Int.add_zero];rfl
theorem N.s_eq:∀x:N,x.s.d u w=(x.d u:Int)
 | .v i=>by show((0+dn (one i) u:Nat):Int)+(0:Int)=_;rw[DS,Nat.zero_add,Int.add_zero];rfl
 | .c k=>S.R9 k
 | .a x y=>by show(x.s.add y.s).d u w=((x.d u+y.d u:Nat):Int);rw[S.nh,N.s_eq x,N.s_eq y,Int.natCast_add]
 | .m k x=>by show(x.s.mul k).d u w=((k * x.d u:Nat):Int);rw[S.oN,N.s_eq x,Int.natCast_mul]
 | .n x k=>by show(x.s.mul k).d u w=((x.d u * k:Nat):Int);rw[S.oN,N.s_eq x,Nat.mul_comm,Int.natCast_mul]
theorem D.nh(x y:D):(x.add y).d u w=x.d u w+y.d u w:=by show(x.p.add y.p).d u w - (x.m.add y.m).d u w=(x.p.d u w - x.m.d u w)+(y.p.d u w - y.m.d u w);rw[S.nh,S.nh];exact isc ..
theorem D.DV(x:D):x.neg.d u w= - x.d u w:=by exact(Int.neg_sub ..).symm
theorem D.oN(k:Nat)(x:D):(x.mul k).d u w=k * x.d u w:=by show(x.p.mul k).d u w - (x.m.mul k).d u w=k * (x.p.d u w - x.m.d u w);rw[S.oN,S.oN,Int.mul_sub]
theorem D.Qj(x:S):(⟨x,S.z0⟩:D).d u w=x.d u w:=by show x.d u w - S.z0.d u w=_;rw[show S.z0.d u w=(0:Int)from S.R9 0,Int.sub_zero]
theorem Z.pG:∀x:Z,x.q.d u w=x.d u w
 | .v i=>by show(⟨⟨0,[],one i⟩,S.z0⟩:D).d u w=_;rw[D.Qj];show((0+dn [] u:Nat):Int)+dz (one i) w=AM 0 w i;rw[DO,qF];exact Int.zero_add _
 | .c k=>(D.Qj _).trans (S.R9 k)
 | .a x y=>by show(x.q.add y.q).d u w=x.d u w+y.d u w;rw[D.nh,Z.pG x,Z.pG y]
 | .s x y=>by show(x.q.add y.q.neg).d u w=x.d u w - y.d u w;rw[D.nh,D.DV,Z.pG x,Z.pG y,Int.sub_eq_add_neg]
 | .g x=>by show x.q.neg.d u w= - x.d u w;rw[D.DV,Z.pG x]
 | .m k x=>by show(x.q.mul k).d u w=(k:Int) * x.d u w;rw[D.oN,Z.pG x]
 | .n x k=>by show(x.q.mul k).d u w=x.d u w * (k:Int);rw[D.oN,Z.pG x,Int.mul_comm]
 | .t x=>(D.Qj _).trans (N.s_eq x)
theorem tx(x:N):(vj x).d u w=(x.d u:Int):=(D.Qj _).trans (N.s_eq x)
theorem Hp(x y:D):(le x y).d u w=x.d u w - y.d u w:=by show(x.add y.neg).d u w=_;rw[D.nh,D.DV,Int.sub_eq_add_neg]
theorem Mg(x y:D):(lt x y).d u w=x.d u w - y.d u w+1:=by show((le x y).add Fc).d u w=_;rw[D.nh,Hp,show Fc.d u w=(1:Int)from(D.Qj _).trans (S.R9 1)]
noncomputable def HR(u:List Nat)(w:List Int):List D->Prop
 | []=>True
 |d::r=>d.d u w<=0/\HR u w r
theorem HR.app:∀ {x y:List D},HR u w x->HR u w y->HR u w (x++y)
 | [],_,_,h=>h
 |_::_,_,h,k=>⟨h.1,h.2.app k⟩
theorem Zl{x y:D}(h:x.d u w<=y.d u w):(le x y).d u w<=0:=by rw[Hp];exact Int.sub_nonpos_of_le h
theorem Zk{x y:D}(h:x.d u w<y.d u w):(lt x y).d u w<=0:=by rw[Mg];exact Int.add_one_le_iff.mpr (Int.sub_neg_of_lt h)
theorem ES{x y:N}(h:x.d u<=y.d u):(le (vj x) (vj y)).d u w<=0:=Zl (by rw[tx,tx];exact Int.ofNat_le.mpr h)
theorem LG{x y:N}(h:x.d u<y.d u):(lt (vj x) (vj y)).d u w<=0:=Zk (by rw[tx,tx];exact Int.ofNat_lt.mpr h)
theorem ER{x y:Z}(h:x.d u w<=y.d u w):(le x.q y.q).d u w<=0:=Zl (by rw[Z.pG,Z.pG];exact h)
theorem Lz{x y:Z}(h:x.d u w<y.d u w):(lt x.q y.q).d u w<=0:=Zk (by rw[Z.pG,Z.pG];exact h)
theorem P.Dt:∀ {p:P},p.d u w->HR u w p.f
 | .i x y,h=>⟨ES h,trivial⟩
 | .j x y,h=>⟨LG h,trivial⟩
 | .k x y,h=>⟨ES (Nat.le_of_eq h),ES (Nat.le_of_eq h.symm),trivial⟩
 | .l x y,h=>⟨ER h,trivial⟩
 | .p x y,h=>⟨Lz h,trivial⟩
 | .q x y,h=>⟨ER (Int.le_of_eq h),ER (Int.le_of_eq h.symm),trivial⟩
 | .e x y,h=>(P.Dt h.1).app (P.Dt h.2)
 | .o _ _,_=>trivial
 | .n (.i x y),h=>⟨LG (Nat.lt_of_not_le h),trivial⟩
 | .n (.j x y),h=>⟨ES (Nat.le_of_not_lt h),trivial⟩
 | .n (.l x y),h=>⟨Lz (Int.not_le.mp h),trivial⟩
 | .n (.p x y),h=>⟨ER (Int.not_lt.mp h),trivial⟩
 | .n (.k _ _),_| .n (.q _ _),_| .n (.e _ _),_| .n (.o _ _),_| .n (.n _),_| .n .z,_=>trivial
 | .z,h=>h.elim
theorem P.Ks:∀ {p:P},p.d u w->p.alt.1.d u w∨p.alt.2.d u w
 | .o _ _,h=>h
 | .n (.k x y),h=>Nat.lt_or_gt_of_ne h
 | .n (.q x y),h=>Int.lt_or_gt_of_ne h
 | .n (.e x y),h=>Classical.not_and_iff_not_or_not.mp h
 | .n (.o x y),h=>.inl (not_or.mp h)
 | .n (.n x),h=>.inl (Classical.not_not.mp h)
 | .n (.i _ _),h| .n (.j _ _),h| .n (.l _ _),h| .n (.p _ _),h| .n .z,h=>.inl h
 | .i _ _,h| .j _ _,h| .k _ _,h| .l _ _,h| .p _ _,h| .q _ _,h| .e _ _,h| .z,h=>.inl h
theorem wk:∀ {ks:List Nat} {a:List D},HR u w a->(GH ks a).d u w<=0
 | [],_,_=>Int.le_of_eq (Int.sub_self _)
 |_::_,[],_=>Int.le_of_eq (Int.sub_self _)
 |k::ks,f::a,h=>by show((f.mul k).add (GH ks a)).d u w<=0;rw[D.nh,D.oN];exact Int.add_nonpos (Int.mul_nonpos_of_nonneg_of_nonpos (Int.natCast_nonneg k) h.1) (wk (ks:=ks) h.2)
theorem yk:∀ {y u:List Nat},y.all (λ b=>Nat.beq b 0)=true->dn y u=0
 | [],u,_=>qF u
 |b::y,[],_=>rfl
 |b::y,c::u,h=>by obtain ⟨d,a⟩:=Bool.and_eq_true_iff.mp (show(Nat.beq b 0&&y.all λ b=>Nat.beq b 0)=true from h);obtain rfl:=Nat.eq_of_beq_eq_true d;show 0 * c+dn y u=0;rw[yk a,Nat.zero_mul]
theorem yj:∀ {y:List Nat} {u:List Int},y.all (λ b=>Nat.beq b 0)=true->dz y u=0
 | [],u,_=>rfl
 |b::y,[],_=>rfl
 |b::y,c::u,h=>by obtain ⟨d,a⟩:=Bool.and_eq_true_iff.mp (show(Nat.beq b 0&&y.all λ b=>Nat.beq b 0)=true from h);obtain rfl:=Nat.eq_of_beq_eq_true d;show(0:Int) * c+dz y u=0;rw[yj a,Int.zero_mul];rfl
theorem Dh:∀ {x y u:List Nat},RX x y=true->dn y u<=dn x u
 | [],y,u,h=>by rw[yk h];exact Nat.zero_le _
 |a::x,[],u,_=>by rw[qF];exact Nat.zero_le _
 |a::x,b::y,[],_=>Nat.le_refl _
 |a::x,b::y,c::u,h=>by obtain ⟨e,d⟩:=Bool.and_eq_true_iff.mp (show(Nat.ble b a&&RX x y)=true from h);exact Nat.add_le_add (Nat.mul_le_mul_right c (Nat.le_of_ble_eq_true e)) (Dh d)
theorem xR:∀ {x y:List Nat} {u:List Int},K1 x y=true->dz x u=dz y u
 | [],y,u,h=>by rw[yj h];rfl
 |a::x,[],[],h=>rfl
 |a::x,[],c::u,h=>by obtain ⟨e,d⟩:=Bool.and_eq_true_iff.mp (show(Nat.beq a 0&&K1 x [])=true from h);obtain rfl:=Nat.eq_of_beq_eq_true e;show(0:Int) * c+dz x u=0;rw[xR (u:=u) d,Int.zero_mul];rfl
 |a::x,b::y,[],_=>rfl
 |a::x,b::y,c::u,h=>by obtain ⟨e,d⟩:=Bool.and_eq_true_iff.mp (show(Nat.beq a b&&K1 x y)=true from h);obtain rfl:=Nat.eq_of_beq_eq_true e;show(a:Int) * c+dz x u=a * c+dz y u;rw[xR (u:=u) d]
theorem D.Iw{x:D}(h:x.no=true):0<x.d u w:=by obtain ⟨e,a⟩:=Bool.and_eq_true_iff.mp h;obtain ⟨c,b⟩:=Bool.and_eq_true_iff.mp e;have i:x.m.k<x.p.k:=Nat.le_of_ble_eq_true c;have g:=Dh (u:=u) b;have f:=xR (u:=w) a;show 0< (((x.p.k+dn x.p.n u:Nat):Int)+dz x.p.z w) - (((x.m.k+dn x.m.n u:Nat):Int)+dz x.m.z w);rw[f];exact Int.sub_pos_of_lt (Int.add_lt_add_right (Int.ofNat_lt.mpr (Nat.add_lt_add_of_lt_of_le i g)) _)
noncomputable def yg(u:List Nat)(w:List Int):List P->Prop
 | []=>True
 |p::r=>p.d u w/\yg u w r
theorem sH:∀ {a:List P},yg u w a->HR u w (Ds a)
 | [],_=>trivial
 |_::_,h=>(P.Dt h.1).app (sH h.2)
theorem yg.at:∀ {hs:List P} {i:Nat},yg u w hs->(AM (.n .z) hs i).d u w
 | [],_,_=>id
 |_::_,0,h=>h.1
 |_::hs,_+1,h=>yg.at (hs:=hs) h.2
theorem C.BR:∀ {c:C} {a:List P},c.ok a=true->yg u w a->False
 | .l b,a,h,k=>by exact Int.lt_irrefl 0 (Int.lt_of_lt_of_le (D.Iw (u:=u) (w:=w) h) (wk (ks:=b) (sH k)))
 | .s i x y,a,h,k=>by obtain ⟨e,d⟩:=Bool.and_eq_true_iff.mp (show(x.ok ((AM (.n .z) a i).alt.1::a)&&y.ok ((AM (.n .z) a i).alt.2::a))=true from h);exact(P.Ks (k.at (i:=i))).elim (λ z=>C.BR e ⟨z,k⟩) λ z=>C.BR d ⟨z,k⟩
theorem CN{g:P}:∀ {a:List P},(yg u w a->g.d u w)->imp u w g a
 | [],k=>k trivial
 |_::_,k=>λ h=>CN λ r=>k ⟨h,r⟩
end
theorem cU(u:List Nat)(w:List Int)(g:P)(a:List P)(c:C)(h:c.ok (.n g::a)=true):imp u w g a:=CN λ k=>Classical.byContradiction λ n=>C.BR h ⟨n,k⟩
theorem uT(a b:Nat):(b<=a/\a - b+b=a)∨(a<=b/\a - b=0):=(Nat.le_total b a).imp (λ h=>⟨h,Nat.sub_add_cancel h⟩) λ h=>⟨h,Nat.sub_eq_zero_of_le h⟩
theorem bO(a:Int):(0<=a/\(a.toNat:Int)=a)∨(a<=0/\a.toNat=0):=(Int.le_total 0 a).imp (λ h=>⟨h,Int.toNat_of_nonneg h⟩) λ h=>⟨h,Int.toNat_of_nonpos h⟩
theorem vr(a b:Nat):(a<=b/\min a b=a)∨(b<=a/\min a b=b):=(Nat.le_total a b).imp (λ h=>⟨h,Nat.min_eq_left h⟩) λ h=>⟨h,Nat.min_eq_right h⟩
theorem aa2(a b:Nat):(a<=b/\max a b=b)∨(b<=a/\max a b=a):=(Nat.le_total a b).imp (λ h=>⟨h,Nat.max_eq_right h⟩) λ h=>⟨h,Nat.max_eq_left h⟩
theorem aa0(a b:Int):(a<=b/\min a b=a)∨(b<=a/\min a b=b):=(Int.le_total a b).imp (λ h=>⟨h,Int.min_eq_left h⟩) λ h=>⟨h,Int.min_eq_right h⟩
theorem aa1(a b:Int):(a<=b/\max a b=b)∨(b<=a/\max a b=a):=(Int.le_total a b).imp (λ h=>⟨h,Int.max_eq_right h⟩) λ h=>⟨h,Int.max_eq_left h⟩
end L
noncomputable def W0:L.N:=.v 0
noncomputable def W1:L.N:=.v 1
noncomputable def W2:L.N:=.v 2
noncomputable def W3:L.N:=.v 3
noncomputable def W4:L.N:=.v 4
noncomputable def W5:L.N:=.v 5
noncomputable def W6:L.N:=.v 6
noncomputable def W7:L.N:=.v 7
noncomputable def W8:L.N:=.v 8
noncomputable def W9:L.N:=.v 9
noncomputable def Y0:L.Z:=.v 0
noncomputable def Y1:L.Z:=.v 1
noncomputable def Y2:L.Z:=.v 2
noncomputable def Y3:L.Z:=.v 3
noncomputable def Y4:L.Z:=.v 4
noncomputable def Y5:L.Z:=.v 5
noncomputable def Y6:L.Z:=.v 6
noncomputable def Y7:L.Z:=.v 7
noncomputable def Y8:L.Z:=.v 8
noncomputable def Y9:L.Z:=.v 9
theorem X1(g:L.P)(a:List L.P)(c:L.C)(h:c.ok (.n g::a)=true):L.imp [] [] g a:=L.cU _ _ g a c h
theorem ed{b:Int}(g:L.P)(a:List L.P)(c:L.C)(h:c.ok (.n g::a)=true):L.imp [] [b] g a:=L.cU _ _ g a c h
theorem oA{d b:Int}(g:L.P)(a:List L.P)(c:L.C)(h:c.ok (.n g::a)=true):L.imp [] [d,b] g a:=L.cU _ _ g a c h
theorem yF{e d b:Int}(g:L.P)(a:List L.P)(c:L.C)(h:c.ok (.n g::a)=true):L.imp [] [e,d,b] g a:=L.cU _ _ g a c h
theorem Ni{f e d b:Int}(g:L.P)(a:List L.P)(c:L.C)(h:c.ok (.n g::a)=true):L.imp [] [f,e,d,b] g a:=L.cU _ _ g a c h
theorem mF{b:Nat}(g:L.P)(a:List L.P)(c:L.C)(h:c.ok (.n g::a)=true):L.imp [b] [] g a:=L.cU _ _ g a c h
theorem kJ{d:Nat}{b:Int}(g:L.P)(a:List L.P)(c:L.C)(h:c.ok (.n g::a)=true):L.imp [d] [b] g a:=L.cU _ _ g a c h
theorem yE{e:Nat}{d b:Int}(g:L.P)(a:List L.P)(c:L.C)(h:c.ok (.n g::a)=true):L.imp [e] [d,b] g a:=L.cU _ _ g a c h
theorem Nh{f:Nat}{e d b:Int}(g:L.P)(a:List L.P)(c:L.C)(h:c.ok (.n g::a)=true):L.imp [f] [e,d,b] g a:=L.cU _ _ g a c h
theorem iA{d b:Nat}(g:L.P)(a:List L.P)(c:L.C)(h:c.ok (.n g::a)=true):L.imp [d,b] [] g a:=L.cU _ _ g a c h
theorem pW{e d:Nat}{b:Int}(g:L.P)(a:List L.P)(c:L.C)(h:c.ok (.n g::a)=true):L.imp [e,d] [b] g a:=L.cU _ _ g a c h
theorem vC{f e:Nat}{d b:Int}(g:L.P)(a:List L.P)(c:L.C)(h:c.ok (.n g::a)=true):L.imp [f,e] [d,b] g a:=L.cU _ _ g a c h
theorem Ci{i f:Nat}{e d b:Int}(g:L.P)(a:List L.P)(c:L.C)(h:c.ok (.n g::a)=true):L.imp [i,f] [e,d,b] g a:=L.cU _ _ g a c h
theorem jI{e d b:Nat}(g:L.P)(a:List L.P)(c:L.C)(h:c.ok (.n g::a)=true):L.imp [e,d,b] [] g a:=L.cU _ _ g a c h
theorem Ho{f e d:Nat}{b:Int}(g:L.P)(a:List L.P)(c:L.C)(h:c.ok (.n g::a)=true):L.imp [f,e,d] [b] g a:=L.cU _ _ g a c h
theorem Ng{j i f:Nat}{e d b:Int}(g:L.P)(a:List L.P)(c:L.C)(h:c.ok (.n g::a)=true):L.imp [j,i,f] [e,d,b] g a:=L.cU _ _ g a c h
theorem wO{f e d b:Nat}(g:L.P)(a:List L.P)(c:L.C)(h:c.ok (.n g::a)=true):L.imp [f,e,d,b] [] g a:=L.cU _ _ g a c h
theorem Fx{i f e d b:Nat}(g:L.P)(a:List L.P)(c:L.C)(h:c.ok (.n g::a)=true):L.imp [i,f,e,d,b] [] g a:=L.cU _ _ g a c h
theorem KO{j i f e d b:Nat}(g:L.P)(a:List L.P)(c:L.C)(h:c.ok (.n g::a)=true):L.imp [j,i,f,e,d,b] [] g a:=L.cU _ _ g a c h
theorem ln8{l k j i f e d b:Nat}(g:L.P)(a:List L.P)(c:L.C)(h:c.ok (.n g::a)=true):L.imp [l,k,j,i,f,e,d,b] [] g a:=L.cU _ _ g a c h
theorem UR{o m l k j i f e d b:Nat}(g:L.P)(a:List L.P)(c:L.C)(h:c.ok (.n g::a)=true):L.imp [o,m,l,k,j,i,f,e,d,b] [] g a:=L.cU _ _ g a c h
theorem vA{c b a:Nat}:L.imp [c,b,a] [] (.j W0 W1) [.k W1 W2,.j W0 W2]:=L.cU _ _ _ _ (.l [1,0,1,1]) rfl
theorem AX{b a:Nat}:L.imp [b,a] [] (.n (.k W0 W1)) [.j W1 W0]:=L.cU _ _ _ _ (.s 0 (.l [1,0,1]) (.l [1,0,1])) rfl
theorem AW{b a:Nat}:L.imp [b,a] [] (.n (.k W0 W1)) [.j W0 W1]:=L.cU _ _ _ _ (.s 0 (.l [0,1,1]) (.l [0,1,1])) rfl
theorem B8{a:Nat}:L.imp [a] [] (.l (.c 0) (.t W0)) []:=L.cU _ _ _ _ (.l [1]) rfl
theorem B7{a:Nat}:L.imp [a] [] (.l (.g (.c 1000000)) (.t W0)) []:=L.cU _ _ _ _ (.l [1]) rfl
theorem EC{d b a:Nat}:L.imp [d,b,a] [] (.j W0 W1) [.k W2 W1,.p (.t W0) (.s (.t W2) (.c 0))]:=L.cU _ _ _ _ (.l [1,1,0,1]) rfl
theorem Hn{b a:Nat}:L.imp [b,a] [] .z [.i W0 W1,.j W1 W0]:=L.cU _ _ _ _ (.l [1,1]) rfl
theorem Hm{d b a:Nat}:L.imp [d,b,a] [] (.k W0 W1) [.k W2 W1,.o (.e (.l (.c 0) (.s (.t W2) (.c 0))) (.q (.t W0) (.s (.t W2) (.c 0)))) (.e (.l (.s (.t W2) (.c 0)) (.c 0)) (.k W0 (.c 0)))]:=L.cU _ _ _ _ (.s 0 (.s 3 (.l [0,0,1,1,0,1]) (.l [1,0,0,1,0,1])) (.s 3 (.l [0,1,0,1,1]) (.l [0,1,0,1]))) rfl
theorem Hl{a:Nat}:L.imp [a] [] (.i W0 (.c 24)) [.n (.p (.c 24) (.t W0))]:=L.cU _ _ _ _ (.l [1,1]) rfl
theorem Hk{c b a:Nat}:L.imp [c,b,a] [] (.i W0 W1) [.i W0 W2,.i W2 W1]:=L.cU _ _ _ _ (.l [1,1,1]) rfl
theorem vz{c b a:Nat}:L.imp [c,b,a] [] (.n (.k W0 W1)) [.i W2 W1,.j W0 W2]:=L.cU _ _ _ _ (.s 0 (.l [0,1,1,1]) (.l [0,1,1,1])) rfl
theorem z6{e d b:Nat}:L.imp [e,d,b] [] (.i W0 W1) [.k W2 (.a W0 (.c 1)),.k W1 (.a W2 (.c 1))]:=L.cU _ _ _ _ (.l [1,0,1,0,1]) rfl
theorem zZ{d b:Nat}:L.imp [d,b] [] (.j W0 W1) [.k W1 (.a W0 (.c 1))]:=L.cU _ _ _ _ (.l [1,0,1]) rfl
theorem Cg{b a:Nat}:L.imp [b,a] [] (.p (.t W0) (.t W1)) [.j W0 W1]:=L.cU _ _ _ _ (.l [1,1]) rfl
theorem Cf{b a:Nat}:L.imp [b,a] [] (.l (.t W0) (.c 1000000)) [.i W1 (.c 100),.k W0 W1]:=L.cU _ _ _ _ (.l [1,1,1]) rfl
theorem Ce{d b:Nat}:L.imp [d,b] [] (.i W0 W1) [.k W1 (.a W0 (.c 1))]:=L.cU _ _ _ _ (.l [1,0,1]) rfl
theorem Cd{c b a:Nat}:L.imp [c,b,a] [] (.i W0 W1) [.i W2 W1,.i W0 W2]:=L.cU _ _ _ _ (.l [1,1,1]) rfl
theorem Cc{a:Nat}:L.imp [a] [] (.i W0 (.c 100)) [.i W0 (.c 2)]:=L.cU _ _ _ _ (.l [1,1]) rfl
theorem Cb{c b a:Nat}:L.imp [c,b,a] [] (.n (.k W0 W1)) [.j W1 W2,.i W2 W0]:=L.cU _ _ _ _ (.s 0 (.l [1,0,1,1]) (.l [1,0,1,1])) rfl
theorem Ca{d c b a:Nat}:L.imp [d,c,b,a] [] (.e (.n (.k W0 W1)) (.n (.k W0 W2))) [.j W1 W3,.j W2 W3,.k W0 W3]:=L.cU _ _ _ _ (.s 0 (.s 0 (.l [1,0,1,0,0,1]) (.l [1,0,1,0,0,1])) (.s 0 (.l [1,0,0,1,0,1]) (.l [1,0,0,1,0,1]))) rfl
theorem B9{c b a:Nat}:L.imp [c,b,a] [] (.n (.k W0 W1)) [.j W0 W2,.k W1 W2]:=L.cU _ _ _ _ (.s 0 (.l [0,1,1,0,1]) (.l [0,1,1,0,1])) rfl
theorem Fw{c b a:Nat}:L.imp [c,b,a] [] (.j W0 W1) [.k W2 W1,.j W0 W2]:=L.cU _ _ _ _ (.l [1,1,0,1]) rfl
theorem Fv{b a:Nat}:L.imp [b,a] [] (.i W0 W1) [.k W0 W1]:=L.cU _ _ _ _ (.l [1,1]) rfl
theorem Fu{a:Nat}:L.imp [a] [] (.i W0 (.c 1000000)) [.i W0 (.c 100000)]:=L.cU _ _ _ _ (.l [1,1]) rfl
theorem Ft{e d b:Nat}:L.imp [e,d,b] [] (.n (.k W0 W1)) [.k W2 (.a W1 (.c 1)),.k W0 (.a W2 (.c 1))]:=L.cU _ _ _ _ (.s 0 (.l [1,0,0,1,0,1]) (.l [1,0,0,1,0,1])) rfl
theorem IR{a:Int}:L.imp [] [a] (.l (.g (.c 1000000)) Y0) [.l (.g (.c 1000)) Y0]:=L.cU _ _ _ _ (.l [1,1]) rfl
theorem IQ{a:Int}:L.imp [] [a] (.l Y0 (.c 1000000)) [.l Y0 (.c 1000)]:=L.cU _ _ _ _ (.l [1,1]) rfl
theorem IP{b:Int}:L.imp [] [b] (.l (.g (.c 1000000)) (.a Y0 (.c 1))) [.l (.g (.c 1000)) Y0]:=L.cU _ _ _ _ (.l [1,1]) rfl
theorem IN{b:Int}:L.imp [] [b] (.l (.a Y0 (.c 1)) (.c 1000000)) [.l Y0 (.c 1000)]:=L.cU _ _ _ _ (.l [1,1]) rfl
theorem IM{b:Nat}{a:Int}:L.imp [b] [a] (.q Y0 (.t W0)) [.l (.c 0) Y0,.o (.e (.l (.c 0) Y0) (.q (.t W0) Y0)) (.e (.l Y0 (.c 0)) (.k W0 (.c 0)))]:=L.cU _ _ _ _ (.s 0 (.s 3 (.l [0,1,0,1]) (.l [0,1,0,1,1])) (.s 3 (.l [0,0,1,1]) (.l [1,0,0,1]))) rfl
theorem IK{d c b a:Nat}:L.imp [d,c,b,a] [] (.j W0 W1) [.k W2 W3,.k W1 W2,.j W0 W3]:=L.cU _ _ _ _ (.l [1,0,1,0,1,1]) rfl
theorem IJ{a:Nat}:L.imp [a] [] .z [.j W0 (.c 0)]:=L.cU _ _ _ _ (.l [1]) rfl
theorem II{a:Int}:L.imp [] [a] (.e (.l (.c 0) Y0) (.l Y0 (.c 40401))) [.e (.l (.c 0) Y0) (.l Y0 (.c 1))]:=L.cU _ _ _ _ (.s 0 (.l [1,1]) (.l [1,0,1])) rfl
theorem IH{g f d:Nat}{b:Int}:L.imp [g,f,d] [b] (.j W0 W1) [.l (.c 0) Y0,.k W2 W1,.l (.a Y0 (.c 1)) (.t W2),.o (.e (.l (.c 0) Y0) (.q (.t W0) Y0)) (.e (.l Y0 (.c 0)) (.k W0 (.c 0)))]:=L.cU _ _ _ _ (.s 4 (.l [0,1,0,1,0,1,0,1]) (.l [0,1,0,1,1,1,0,1])) rfl
theorem IG{c b a:Nat}:L.imp [c,b,a] [] (.e (.n (.k W0 W1)) (.n (.k W0 W2))) [.j W1 W0,.j W2 W0]:=L.cU _ _ _ _ (.s 0 (.s 0 (.l [1,0,1]) (.l [1,0,1])) (.s 0 (.l [1,0,0,1]) (.l [1,0,0,1]))) rfl
theorem IF{m h g f d b:Nat}:L.imp [m,h,g,f,d,b] [] (.e (.n (.k W0 W1)) (.n (.k W0 W2))) [.j W1 W3,.j W2 W3,.k W4 W3,.k W5 (.a W4 (.c 1)),.i W5 W0]:=L.cU _ _ _ _ (.s 0 (.s 0 (.l [1,0,1,0,0,1,0,1,1]) (.l [1,0,1,0,0,1,0,1,1])) (.s 0 (.l [1,0,0,1,0,1,0,1,1]) (.l [1,0,0,1,0,1,0,1,1]))) rfl
theorem IE{d c b:Nat}:L.imp [d,c,b] [] (.i W0 (.a W1 (.m 24 W2))) [.i W0 W1]:=L.cU _ _ _ _ (.l [1,1]) rfl
theorem Nd{d b:Nat}:L.imp [d,b] [] .z [.k (.a W0 (.c 0)) (.a W1 (.c 1)),.i W0 W1]:=L.cU _ _ _ _ (.l [0,1,1]) rfl
theorem Nc{b a:Nat}:L.imp [b,a] [] (.k W0 W1) [.i W0 W1,.i W1 W0]:=L.cU _ _ _ _ (.s 0 (.l [1,0,1]) (.l [1,1])) rfl
theorem Nb{d b:Nat}:L.imp [d,b] [] (.i W0 W1) [.k (.a W1 (.c 0)) W0]:=L.cU _ _ _ _ (.l [1,0,1]) rfl
theorem Na{d b:Nat}:L.imp [d,b] [] (.k W0 W1) [.k (.a W0 (.c 0)) W1]:=L.cU _ _ _ _ (.s 0 (.l [1,0,1]) (.l [1,1])) rfl
theorem M9{e d b:Nat}:L.imp [e,d,b] [] (.j W0 W1) [.k (.a W0 (.a W2 (.c 1))) W1]:=L.cU _ _ _ _ (.l [1,1]) rfl
theorem M8{h g f d b:Nat}:L.imp [h,g,f,d,b] [] (.i (.a (.a W0 W1) (.c 2)) (.c 1000000)) [.i (.a W0 (.m 2 W2)) (.c 1000000),.j W3 W2,.k W1 (.m 2 W4),.o (.e (.i W3 W2) (.k W4 W3)) (.e (.i W2 W3) (.k W4 W2))]:=L.cU _ _ _ _ (.s 4 (.l [0,2,0,1,1,2,1]) (.l [1,0,0,0,0,1])) rfl
theorem M7{f:Nat}{d b:Int}:L.imp [f] [d,b] (.q (.a Y0 (.t W0)) Y1) [.l Y0 Y1,.o (.e (.l (.c 0) (.s Y1 Y0)) (.q (.t W0) (.s Y1 Y0))) (.e (.l (.s Y1 Y0) (.c 0)) (.k W0 (.c 0)))]:=L.cU _ _ _ _ (.s 0 (.s 3 (.l [0,0,1,1]) (.l [1,0,0,1])) (.s 3 (.l [0,1,0,1]) (.l [0,1,0,1,1]))) rfl
theorem M6{a:Int}:L.imp [] [a] (.l (.c 0) Y0) [.l (.c 0) Y0]:=L.cU _ _ _ _ (.l [1,1]) rfl
theorem M5{a:Int}:L.imp [] [a] (.p Y0 (.c 0)) [.n (.l (.c 0) Y0)]:=L.cU _ _ _ _ (.l [1,1]) rfl
theorem M4{a:Int}:L.imp [] [a] (.l (.g (.c 1000000)) Y0) [.e (.l (.c 0) Y0) (.l Y0 (.c 1000000))]:=L.cU _ _ _ _ (.l [1,1]) rfl
theorem M3{f e d b:Nat}:L.imp [f,e,d,b] [] (.i W0 W1) [.k W2 (.a W0 (.c 1)),.k W3 (.a W2 (.c 1)),.i W3 W1]:=L.cU _ _ _ _ (.l [1,0,1,0,1,1]) rfl
theorem M2{m j h g f e d b:Nat}:L.imp [m,j,h,g,f,e,d,b] [] (.i (.a (.a W0 (.a W1 W2)) W3) (.c 1000000)) [.i (.a W0 W4) (.c 1000000),.i W3 W5,.i W6 W7,.k W6 (.a W2 W5),.k W4 (.a W1 W7)]:=L.cU _ _ _ _ (.l [1,1,1,1,0,1,0,1]) rfl
theorem M1{f e d b:Nat}:L.imp [f,e,d,b] [] (.k W0 (.a W1 (.c 1))) [.k W2 (.a W1 (.c 1)),.k W3 W2,.k W0 W3]:=L.cU _ _ _ _ (.s 0 (.l [1,0,1,0,1,0,1]) (.l [1,1,0,1,0,1])) rfl
theorem M0{e d b:Nat}:L.imp [e,d,b] [] (.j W0 W1) [.k W2 (.a W0 (.c 1)),.i W2 W1]:=L.cU _ _ _ _ (.l [1,0,1,1]) rfl
theorem MZ{e d b:Nat}:L.imp [e,d,b] [] (.i (.a W0 W1) (.m 1000 (.a W2 (.c 1)))) [.i W0 (.c 1000),.i W1 (.m 1000 W2)]:=L.cU _ _ _ _ (.l [1,1,1]) rfl
theorem MY{b:Nat}{a:Int}:L.imp [b] [a] (.e (.l (.c 0) Y0) (.p Y0 (.t W0))) [.o (.q Y0 (.g (.c 1))) (.e (.l (.c 0) Y0) (.p Y0 (.t W0))),.n (.p Y0 (.c 0))]:=L.cU _ _ _ _ (.s 0 (.l [1,1]) (.s 2 (.l [1,0,0,1]) (.l [0,1,1]))) rfl
theorem MX{f e d b:Nat}:L.imp [f,e,d,b] [] (.i (.a (.a W0 W1) W2) (.c 1000000)) [.i (.a W0 (.a (.a W1 W2) W3)) (.c 1000000)]:=L.cU _ _ _ _ (.l [1,1]) rfl
theorem MW{d b:Nat}:L.imp [d,b] [] (.k W0 W1) [.j W0 (.a W1 (.c 1)),.n (.j W0 W1)]:=L.cU _ _ _ _ (.s 0 (.l [1,0,1]) (.l [1,1])) rfl
theorem MV{a:Nat}:L.imp [a] [] (.i W0 (.c 1000000)) [.i W0 (.c 100)]:=L.cU _ _ _ _ (.l [1,1]) rfl
theorem MU{e d b:Nat}:L.imp [e,d,b] [] (.i (.a W0 W1) (.c 1000000)) [.i (.a W0 W2) (.c 1000000),.i W1 W2]:=L.cU _ _ _ _ (.l [1,1,1]) rfl
theorem MT{d c b a:Nat}:L.imp [d,c,b,a] [] (.n (.k W0 W1)) [.j W1 W2,.i W3 W0,.i W2 W3]:=L.cU _ _ _ _ (.s 0 (.l [1,0,1,1,1]) (.l [1,0,1,1,1])) rfl
theorem MS{a:Nat}:L.imp [a] [] (.i W0 (.c 100)) [.i W0 (.c 100)]:=L.cU _ _ _ _ (.l [1,1]) rfl
theorem MR{b a:Nat}:L.imp [b,a] [] (.i W0 (.c 100)) [.k W0 W1,.i W1 (.c 24)]:=L.cU _ _ _ _ (.l [1,1,0,1]) rfl
theorem MQ{e d b:Nat}:L.imp [e,d,b] [] (.i (.a (.a W0 W1) W2) (.c 1000000)) [.i (.a W0 (.a W1 W2)) (.c 1000000)]:=L.cU _ _ _ _ (.l [1,1]) rfl
theorem MP{e d b:Nat}:L.imp [e,d,b] [] (.n (.p (.a (.t W0) (.c 1)) (.t W1))) [.i W2 (.a W0 (.c 1)),.k W1 W2]:=L.cU _ _ _ _ (.s 0 (.l [1,1,1]) (.l [1,1,1])) rfl
theorem MO{c b a:Nat}:L.imp [c,b,a] [] (.n (.k W0 W1)) [.i W2 W0,.j W1 W2]:=L.cU _ _ _ _ (.s 0 (.l [1,0,1,1]) (.l [1,0,1,1])) rfl
theorem MN{d b:Nat}:L.imp [d,b] [] (.i W0 (.a W1 (.c 1))) [.k W0 (.a W1 (.c 1))]:=L.cU _ _ _ _ (.l [1,1]) rfl
theorem MM{e d b:Nat}:L.imp [e,d,b] [] (.q (.a (.t W0) (.c 1)) (.t W1)) [.k W2 (.a W0 (.c 1)),.k W1 W2]:=L.cU _ _ _ _ (.s 0 (.l [1,1,0,1]) (.l [1,0,1,0,1])) rfl
theorem ML{b a:Nat}:L.imp [b,a] [] (.i W0 W1) [.i W0 W1]:=L.cU _ _ _ _ (.l [1,1]) rfl
theorem MK{b:Nat}:L.imp [b] [] (.l (.c 0) (.a (.t W0) (.c 1))) []:=L.cU _ _ _ _ (.l [1]) rfl
theorem MJ{d b:Nat}:L.imp [d,b] [] (.i W0 (.a (.c 100) (.a W1 (.c 1)))) [.i W0 (.c 100)]:=L.cU _ _ _ _ (.l [1,1]) rfl
theorem MI{a:Int}:L.imp [] [a] (.l Y0 (.c 40401)) [.l Y0 (.m 1 (.c 201))]:=L.cU _ _ _ _ (.l [1,1]) rfl
theorem MH{b a:Nat}:L.imp [b,a] [] (.i W0 (.c 2)) [.i W1 (.c 2),.k W0 W1]:=L.cU _ _ _ _ (.l [1,1,1]) rfl
theorem MG{b:Int}:L.imp [] [b] (.l (.c 0) (.a Y0 (.c 1))) [.l (.c 0) Y0]:=L.cU _ _ _ _ (.l [1,1]) rfl
theorem MF{h g f d b:Nat}:L.imp [h,g,f,d,b] [] (.e (.j W0 W1) (.j W2 W1)) [.j W0 W3,.j W2 W3,.k W4 W3,.k W1 (.a W4 (.c 1))]:=L.cU _ _ _ _ (.s 0 (.l [1,1,0,0,1,0,1]) (.l [1,0,1,0,1,0,1])) rfl
theorem ME{c b a:Nat}:L.imp [c,b,a] [] (.i W0 W1) [.k W0 W2,.n (.j W1 W2)]:=L.cU _ _ _ _ (.l [1,1,0,1]) rfl
theorem MD{d c b a:Nat}:L.imp [d,c,b,a] [] (.i W0 W1) [.k W2 W0,.i W2 W3,.i W3 W1]:=L.cU _ _ _ _ (.l [1,0,1,1,1]) rfl
theorem MC{d c b a:Nat}:L.imp [d,c,b,a] [] (.o (.o (.k W0 W1) (.k W0 W2)) (.i W3 W0)) [.k W0 W3]:=L.cU _ _ _ _ (.s 0 (.l [1,0,1]) (.l [1,0,1])) rfl
theorem MB{a:Int}:L.imp [] [a] (.n (.p Y0 (.c 0))) [.l (.c 0) Y0]:=L.cU _ _ _ _ (.s 0 (.l [1,1]) (.l [1,1])) rfl
theorem MA{a:Nat}:L.imp [a] [] (.n (.p (.t W0) (.c 0))) []:=L.cU _ _ _ _ (.s 0 (.l [1]) (.l [1])) rfl
theorem Mz{c b:Nat}:L.imp [c,b] [] (.i W0 (.a W0 W1)) []:=L.cU _ _ _ _ (.l [1]) rfl
theorem My{b a:Nat}:L.imp [b,a] [] (.i W0 (.c 100)) [.i W1 (.c 24),.k W0 W1]:=L.cU _ _ _ _ (.l [1,1,1]) rfl
theorem Mx{g f e d b:Nat}:L.imp [g,f,e,d,b] [] (.i W0 W1) [.i W2 W3,.k W1 (.a W4 (.c 1)),.i W0 W2,.j W3 W4]:=L.cU _ _ _ _ (.l [1,1,0,1,1,1]) rfl
theorem Mw{h g f e d b:Nat}:L.imp [h,g,f,e,d,b] [] (.o (.k W0 W1) (.i W2 W0)) [.i W3 W4,.k W0 (.a W5 (.c 1)),.i W2 W3,.j W4 W5]:=L.cU _ _ _ _ (.s 0 (.l [1,1,0,1,1,1]) (.l [1,1,0,1,1,1])) rfl
theorem Mv{a:Nat}:L.imp [a] [] (.i W0 (.c 1000)) [.i W0 (.c 2)]:=L.cU _ _ _ _ (.l [1,1]) rfl
theorem Mu{d c b a:Nat}:L.imp [d,c,b,a] [] (.i W0 W1) [.k W2 W0,.k W3 W2,.k W1 W3]:=L.cU _ _ _ _ (.l [1,0,1,0,1,0,1]) rfl
theorem Mt{e d c b a:Nat}:L.imp [e,d,c,b,a] [] (.n (.k W0 W1)) [.k W2 W3,.j W0 W3,.k W4 W2,.k W1 W4]:=L.cU _ _ _ _ (.s 0 (.l [0,1,0,1,1,0,1,0,1]) (.l [0,1,0,1,1,0,1,0,1])) rfl
theorem Ms{a:Nat}:L.imp [a] [] (.l (.t W0) (.c 1000000)) [.i W0 (.c 2)]:=L.cU _ _ _ _ (.l [1,1]) rfl
theorem Mr{g f e d b:Nat}:L.imp [g,f,e,d,b] [] (.n (.k W0 W1)) [.k W2 (.a W1 (.c 1)),.k W3 (.a W2 (.c 1)),.k W4 (.a W3 (.c 1)),.k W0 (.a W4 (.c 1))]:=L.cU _ _ _ _ (.s 0 (.l [1,0,0,1,0,1,0,1,0,1]) (.l [1,0,0,1,0,1,0,1,0,1])) rfl
theorem Mq{a:Nat}:L.imp [a] [] (.i W0 (.c 900)) [.i W0 (.c 36)]:=L.cU _ _ _ _ (.l [1,1]) rfl
theorem Mp{a:Nat}:L.imp [a] [] (.i W0 (.c 900)) [.i W0 (.c 876)]:=L.cU _ _ _ _ (.l [1,1]) rfl
theorem Mo{a:Nat}:L.imp [a] [] (.i W0 (.c 1000000)) [.i W0 (.c 900)]:=L.cU _ _ _ _ (.l [1,1]) rfl
theorem Mn{d:Nat}{b:Int}:L.imp [d] [b] (.q (.a Y0 (.t (.a W0 (.c 1)))) (.a (.a Y0 (.c 1)) (.t W0))) []:=L.cU _ _ _ _ (.s 0 (.l [1]) (.l [1])) rfl
theorem Mm{f d b:Nat}:L.imp [f,d,b] [] (.j W0 W1) [.j (.c 0) W1,.i W0 W2,.o (.e (.i (.c 1) W1) (.k (.a W2 (.c 1)) W1)) (.e (.i W1 (.c 1)) (.k W2 (.c 0)))]:=L.cU _ _ _ _ (.s 3 (.l [0,1,0,1,0,1]) (.l [0,1,0,1,1,1])) rfl
theorem Ml{f d b:Nat}:L.imp [f,d,b] [] (.i W0 W1) [.j W0 W2,.o (.e (.i (.c 1) W2) (.k (.a W1 (.c 1)) W2)) (.e (.i W2 (.c 1)) (.k W1 (.c 0)))]:=L.cU _ _ _ _ (.s 2 (.l [0,0,1,1,1]) (.l [1,0,0,1,1])) rfl
theorem Mk{d b:Nat}:L.imp [d,b] [] (.i (.a (.a W0 (.c 1)) (.m 2 W1)) (.c 900)) [.i (.a W0 (.m 2 (.a W1 (.c 1)))) (.c 900)]:=L.cU _ _ _ _ (.l [1,1]) rfl
theorem Mj{d b:Nat}:L.imp [d,b] [] (.j W0 (.c 1000)) [.i (.a (.a W0 (.c 1)) (.m 2 W1)) (.c 900)]:=L.cU _ _ _ _ (.l [1,1]) rfl
theorem Mi{d b:Nat}:L.imp [d,b] [] (.i (.a (.a W0 (.c 1)) (.m 2 W1)) (.c 900)) [.i (.a (.a W0 (.c 1)) (.m 2 W1)) (.c 900)]:=L.cU _ _ _ _ (.l [1,1]) rfl
theorem Mh{d b:Nat}:L.imp [d,b] [] (.i (.a (.a W0 (.c 3)) (.m 20 W1)) (.c 8000)) [.i (.a (.a W0 (.c 3)) (.m 20 W1)) (.c 8000)]:=L.cU _ _ _ _ (.l [1,1]) rfl
end
section
open PySem
open Sem (wp)
section
variable{prog:Program}{w:World}{A:Around}{E:Value->Shared->Prop}{h:Heap}{g:Array GenState}{d:Drawn}{t:Nat}{os:OsState}{s:Shared}
variable{nm q:Str}{C N:Addr}{bs:List Value}{sn:List Str}{sub:List Value}{col:Option Bool}{dd:Option Addr}{k0 k1 k2 k3 k5:Option Value}
theorem uu
  (a:h.get? C=some (excClassObj nm q C N bs [.type "object"] true sn sub false col dd k0 k1 k2 k3 k5 "object.__new__")) (c:Q () ⟨h,g,d,t,os⟩):
  wpAny M A (checkBuiltinCall "object.__new__" ⟨.ref C::b,f⟩) Q E ⟨h,g,d,t,os⟩:=by
 have F:=PySem.F.objNew;have e:(Value.ref C:: [Value.type "object"]).contains (.type "object")=true:=by rw[List.contains_cons,show [Value.type "object"].contains (.type "object")=true from by decide,Bool.or_true]
 unfold checkBuiltinCall
 erw[F.kind,F.split,F.row]
 dsimp only
 repeat first|refine wpAny_loadPart_at a ?_|refine wpAny_isSubtype_exc a ?_;erw[e]|refine wpAny_staticBase_exc a ?_|refine wpAny_madeBy_exc a ?_|simp only[bne_self_eq_false,Bool.false_eq_true,if_false]|wp_step
 exact c
theorem xg
  (c:h.get? C=some (excClassObj nm q C N bs [.type "object"] true sn sub false col dd k0 k1 k2 k3 k5 "object.__new__")) (k:h.Ns N e) (l:e "__init__" =some (.ref m))
  (j:R (.ok (.ret (.ref (h.objs.size+1)))) ⟨(h.push {cls:=.type "dict",data:=.dict #[]}).push {cls:=.ref C,dict:=some h.objs.size,data:=.plain},g,d,t,os⟩):
  codeAny (model prog w) A (.builtin "object.__new__" ⟨.ref C::a,f⟩) R ⟨h,g,d,t,os⟩:=by
 have F:=PySem.F.objNew;have p:mroOf (.type "object")=pure [.type "object"]:=by kernel_rfl
 have n:typeLookup (.type "object") "__init__" =pure (some (.builtin "object.__init__")):=by rw[typeLookup_type,builtinLookup_eq_fast];kernel_rfl
 have i:(some (Value.ref m) !=some (Value.builtin "object.__init__"))=true:=rfl;have o:(some "object.__new__" !=some "object.__new__")=false:=bne_self_eq_false _;refine codeAny_builtin F.entry ?_;unfold Builtin.«object.__new__»;generalize r:(!List.isEmpty a || !List.isEmpty (Args.kw ⟨.ref C::a,f⟩))=b;rcases b with ⟨⟩
 all_goals
  repeat first|with_reducible refine wpAny_madeHere_exc F.canon c ?_|with_reducible refine wpAny_madeBy_exc c ?_;simp only[o]|with_reducible refine wpAny_loadPart_at c ?_|with_reducible refine wpAny_typeLookup_exc c k p n ?_;erw[l];simp only[i]|wp_step
 all_goals
  show wpAny _ _ (alloc {cls:=.type "dict",data:=.dict #[]} >>= fun x=>pure (some x)) _ _ _;refine wpAny_bind (wpAny_alloc' (wpAny_pure ?_));unfold newObj
  repeat wp_step
  show R _ _;rw[Heap.size_push];exact j
theorem sX
  (j:h.get? C=some (excClassObj nm q C N bs [.type "object"] true sn sub false col dd k0 k1 k2 k3 k5 "object.__new__")) (k:h.Ns N u) (y:u "__init__" =some (.ref B))
  (Jz:h.get? B=some J) (Jy:J.cls=.type "function")
  (O:∀z x dx,Heap.MadeObj h z x dx C->
   wpAny (model prog w) A (call (.ref B) (.ref x::f) L) (λ r p=>r=.none/\Q (.done (.ret (.ref x))) p) E ⟨z,g,d,t,os⟩):
  wpAny (model prog w) A (Builtin.«type.__call__» ⟨.ref C::f,L⟩) Q E ⟨h,g,d,t,os⟩:=by
 have F:=PySem.F.objNew;have C1:mroOf (.type "object")=pure [.type "object"]:=by kernel_rfl
 have VG:typeLookup (.type "object") "__init__" =pure (some (.builtin "object.__init__")):=by rw[typeLookup_type,builtinLookup_eq_fast];kernel_rfl
 repeat first|with_reducible refine wpAny_loadPart_at j ?_|with_reducible refine wpAny_madeBy_exc j ?_|wp_step
 refine codeAny_call_builtin_code (Code.quiet_builtin _ F.quiet) (uu j ?_);refine xg j k y ?_;show wpAny _ _ _ _ _ _;have n:=Heap.get?_push_of_some {cls:=.ref C,dict:=some h.objs.size,data:=.plain} (Heap.get?_push_of_some {cls:=.type "dict",data:=.dict #[]} j);have G:=Heap.get?_push_of_some {cls:=.ref C,dict:=some h.objs.size,data:=.plain} (Heap.get?_push_of_some {cls:=.type "dict",data:=.dict #[]} Jz);have CZ:((h.push {cls:=.type "dict",data:=.dict #[]}).push {cls:=.ref C,dict:=some h.objs.size,data:=.plain}).Ns N u:=
  by rwa[iK k,o es ep e r,-k];exact(jR o es ep (Heap.get?_push_of_some _ (Heap.get?_push_of_some _ e)) r)
 have m:((h.push {cls:=.type "dict",data:=.dict #[]}).push {cls:=.ref C,dict:=some h.objs.size,data:=.plain}).get? (h.objs.size+1)=some {cls:=.ref C,dict:=some h.objs.size,data:=.plain}:=by heap_get
 have H:((h.push {cls:=.type "dict",data:=.dict #[]}).push {cls:=.ref C,dict:=some h.objs.size,data:=.plain}).get? h.objs.size=some {cls:=.type "dict",data:=.dict #[]}:=
  Heap.get?_push_of_some _ (Heap.get?_push_at rfl rfl)
 have Wc:(Value.ref C:: [Value.type "object"]).contains (.ref C)=true:=by simp
 unfold isInstance
 repeat first|with_reducible refine wpAny_loadPart_at m ?_|with_reducible refine wpAny_isSubtype_exc n ?_;erw[Wc]|wp_step
 show wpAny _ _ (typeLookup (.ref C) _) _ _ _;refine wpAny_typeLookup_exc n CZ C1 VG ?_
 erw[y]
 refine wpAny_holding (wpAny_bind ?_);unfold bindSpecial;refine wpAny_bind (wpAny_typeOf (T:= "function") (aw _ G Jy) ?_)
 erw[if_pos (by decide)]
 refine wpAny_pure (wpAny_bind (wpAny_mono (O _ (h.objs.size+1) h.objs.size ⟨λ b o hb=>Heap.get?_push_of_some _ (Heap.get?_push_of_some _ hb),Heap.get?_none_of_le (Nat.le_succ _),Heap.get?_none_of_le (Nat.le_refl _),
  (dP _ m rfl (λ c=>by simp) (.inr (cR h.objs.size rfl (Nat.ne_of_lt (Nat.lt_succ_self _)) (Heap.Ns1.of_empty (gM _ (#[]) _ H rfl (λ e Y=>absurd Y (by simp)) (λ _=>rfl)))))),
  λ o U=>by obtain rfl:=an (m.symm.trans U);rfl,by simp only[Heap.size_push];exact mF (.i W0 (.a (.a W0 (.c 1)) (.c 1))) [] (.l [1]) rfl⟩) (λ r p v=>?_) λ _ _ x=>x))
 rwa[aK v,bw hQ];try clear v;subst bw
 wp_walk
 exact hQ
theorem wu(b:h.get? C=some (excClassObj nm q C N bs [.type "object"] true sn sub false col dd k0 k1 k2 k3 k5 "object.__new__"))
  (e:Q () ⟨h,g,d,t,os⟩):wpAny M A (checkBuiltinCall "type.__call__" ⟨.ref C::a,c⟩) Q E ⟨h,g,d,t,os⟩:=by
 have i:=tc_sub;have f:(⟨h,g,d,t,os⟩:Shared).TypeIs (.ref C) "type" :=(aw _ b rfl);unfold checkBuiltinCall
 erw[tc_kind,tc_split]
 dsimp only
 repeat any_goals first|assumption|with_reducible refine wpAny_loadPart_at b ?_|with_reducible refine wpAny_onRaise ?_|with_reducible refine wpAny_map ?_|wp_step
theorem wv
  (b:h.get? C=some (excClassObj nm q C N bs [.type "object"] true sn sub false col dd k0 k1 k2 k3 k5 "object.__new__")) (n:h.Ns N l) (p:l "__init__" =some (.ref i))
  (u:h.get? i=some k) (v:k.cls=.type "function")
  (m:∀c x e,Heap.MadeObj h c x e C->
   wpAny (model prog w) (A.under (.builtin "type.__call__" ⟨.ref C::a,f⟩)) (call (.ref i) (.ref x::a) f) (fun r j=>r=.none∧Q (.ref x) j) E ⟨c,g,d,t,os⟩):
  wpAny (model prog w) A (call (.ref C) a f) Q E ⟨h,g,d,t,os⟩:=by
 have B:=tc_lookup;have z:=tc_bind (.ref C);have y:(⟨h,g,d,t,os⟩:Shared).TypeIs (.ref C) "type" :=(aw _ b rfl);refine wpAny_call (codeAny_of_tree ?_);show wpAny _ _ (callAny (.ref C) _) _ _ _
 repeat any_goals first|assumption|with_reducible refine wpAny_loadPart_at b ?_|wp_step
 refine⟨rfl,?_⟩;refine codeAny_call_builtin_at (Code.quiet_builtin _ (by decide+kernel)) entry_typeCall (wu b (sX b n p u v λ c x e o=>?_));exact m c x e o
end
end
section
open PySem
set_option backward.match.sparseCases false
inductive BI where
 |len|min|max|list|isinstance|lU|nF
 deriving DecidableEq
set_option genCtorIdx false in
inductive V where
 |none|bool (b:Bool)|int (i:Int)|str (s:Str)|tup (vs:List V)|ref (a:Nat)|fn (k:Nat)|cls (k:Nat)|bi (b:BI)|ke (is:List Int)
set_option genCtorIdx false in
inductive d4 where
 |list (vs:List V)|inst (k:Nat) (fs:List (Nat×V))|dM (es:List (Int×V))|fS (es:List (Str×V))|tell (l:Nat)
noncomputable def ri(v:V):Nat:=V.casesOn v 0 (λ _=>1) (λ _=>2) (λ _=>3) (λ _=>4) (λ _=>5) (λ _=>6) (λ _=>7) (λ _=>8) (λ _=>9)
noncomputable def vm(o:d4):Nat:=d4.casesOn o (λ _=>0) (λ _ _=>1) (λ _=>2) (λ _=>3) (λ _=>4)
abbrev St:=List d4
set_option genCtorIdx false in
inductive Res(α:Type) where
 |ok (a:α) (s:St)|exc (w:Str) (s:St)|bad
noncomputable def M(α:Type):=St->Res α
noncomputable def bad{α:Type}:M α:=λ _=>.bad
noncomputable def sb{α:Type}:Option α->M α
 |some a=>λ s=>.ok a s
 |none=>bad
noncomputable def cY(o:d4):M V:=λ s=>.ok (.ref s.length) (s++[o])
noncomputable def iZ(i:Int):Bool:=decide (-4611686018427387904<=i)&&decide (i<4611686018427387904)
noncomputable def hU{α:Type}(l:List α):Bool:=decide (l.length<=1000000)
noncomputable def lZ(a:List V):M V:=λ s=>if hU a then cY (.list a) s else .bad
noncomputable def BA(a:Nat)(o:d4):M Unit:=λ s=>.ok () (s.set a o)
set_option genInjectivity false
set_option genCtorIdx false
inductive T where
 |one (i:Nat)|m (is:List Nat)
inductive E where
 |v (i:Nat)|k (v:V)|b (op:Operator) (a b:E)|neg (a:E)|not (a:E)|p (a b:E)|q (a b:E)
 |c (op:CmpOp) (a b:E)|ut (a:E) (o1:CmpOp) (b:E) (o2:CmpOp) (c:E)|ite (c a b:E)
 |tup (es:List E)|l (es:List E)|emptyDict|fS (x:Str) (e:E)|i (a i:E)|sl (a:E) (lo hi:Option E)|t (a:E) (n:Nat)
 |call (f:E) (as:List E)|sN (k:Nat) (pre:List V) (e:E) (Z7:List V)|fY (o:E) (m:Nat) (as:List E)|pZ (lo hi:E)
 |comp (eo:List (Option Nat)) (elt:E) (gens:List (T× (E⊕ (Option E×E))×List E))
abbrev o6:=E⊕ (Option E×E)
inductive S where
 |a (t:T) (e:E)|dc (a i e:E)|aC (a:E) (n:Nat) (e:E)|lz (i:Nat) (op:Operator) (e:E)|mv (a i:E) (op:Operator) (e:E)
 |e (e:E)|ez (c:E) (t f:List S)|ek (t:T) (it:o6) (b:List S)|nA (c:E)|ret (e:Option E)|raise (w:Str) (e:E)|cont|bad
set_option genInjectivity true
inductive Flow where
 |next|cont|ret (v:V)
noncomputable def Zd(f:Flow):Nat:=Flow.casesOn f 0 1 (λ _=>2)
abbrev Env:=List (Option V)
structure Fn where
 params:List Nat
 nv:Nat
 body:List S
noncomputable def bH:List Str:=(["text","name","word","line","bounds","items","type","constraint","kind","number","parent","low","high","literals","modulus","small","index","component","is_constrained","discriminants","components","variant","designated","is_tagged","wide","is_limited","is_private","operations",
 "world","limits","nodes","statements","declarations","cells","task","steps","fault","discs","homes","ends","drops","resumes","is_free","activate","tasking","find_sub","call_function","dispatch_function","make_active","task_attr","run_entry","run_procedure","function_result","lay_operation","prot",
 "width","depth","members","tasks","last","fields"]:List String).map Str.ofString
noncomputable def nN:List Str:=(["append","extend","get"]:List String).map Str.ofString
noncomputable def kh(i:Int)(n:Nat):Option Nat:=if 0<=i then(if i<n then some i.toNat else none)else(if 0<=i+n then some (i+n).toNat else none)
noncomputable def gO{α β:Type}(o:Option α)(f:α->M β):M β:=match o with
 |some a=>f a
 |none=>bad
noncomputable def gB{β:Type}(b:Bool)(m:M β):M β:=match b with
 |true=>m
 |false=>bad
noncomputable def iS{α:Type}(a:α):M α:=λ s=>.ok a s
noncomputable def gD:V->Option Int
 | .int i=>some i
 |_=>none
noncomputable def A4:V->Option Str
 | .str i=>some i
 |_=>none
noncomputable def EO:V->Option (List V)
 | .tup i=>some i
 |_=>none
noncomputable def A5:V->Option Nat
 | .ref i=>some i
 |_=>none
noncomputable def LX:d4->Option (List V)
 | .list a=>some a
 |_=>none
noncomputable def UC:d4->Option (List (Int×V))
 | .dM a=>some a
 |_=>none
noncomputable def Io:d4->Option (Nat×List (Nat×V))
 | .inst k a=>some (k,a)
 |_=>none
noncomputable def Im:d4->Option (List (Str×V))
 | .fS a=>some a
 |_=>none
noncomputable def asQ(s:St)(d:Nat):Option (List (Str×V)):=s[d]?.bind Im
noncomputable def rK(s:St)(d:Nat):Option (List V):=s[d]?.bind LX
noncomputable def asD(s:St)(d:Nat):Option (List (Int×V)):=s[d]?.bind UC
noncomputable def Xi(s:St)(d:Nat):Option (Nat×List (Nat×V)):=s[d]?.bind Io
noncomputable def vL(s:St)(v:V):Option (List V):=(A5 v).bind (rK s)
mutual
noncomputable def lQ:Nat->St->V->V->Option Bool
 |0,_,_,_=>none
 |n+1,s,a,b=>match a with
  | .int x=>(gD b).map λ y=>decide (x=y)
  | .str x=>(A4 b).map λ y=>decide (x=y)
  | .none=>match b with
   | .none=>some true
   | .str _=>some false
   |_=>none
  | .tup d=>(EO b).bind λ c=>if d.length=c.length then fW n s d c else none
  | .ref x=>(rK s x).bind λ d=>match b with
   | .str _=>some false
   | .ref y=>(rK s y).bind λ c=>if x=y then some true else if d.length=c.length then fW n s d c else some false
   |_=>none
  |_=>none
noncomputable def fW:Nat->St->List V->List V->Option Bool
 |0,_,_,_=>none
 |n+1,s,d,c=>match d with
  | []=>match c with
   | []=>some true
   |_::_=>none
  |x::d=>match c with
   | []=>none
   |y::c=>(lQ n s x y).bind λ a=>(fW n s d c).map λ b=>a&&b
end
noncomputable def dY:Nat:=1000
noncomputable def ki:V->Bool
 | .none| .int _| .str _=>true
 |_=>false
noncomputable def Va:V->Bool
 | .none=>true
 |_=>false
noncomputable def jL(a b:V):Bool:=match a with
 | .none=>Va b
 | .int x=>match gD b with
  |some y=>decide (x=y)
  |none=>false
 | .str x=>match A4 b with
  |some y=>decide (x=y)
  |none=>false
 |_=>false
noncomputable def md(x:V)(a:List V):Option Bool:=match ki x&&a.all ki with
 |true=>some (a.any (jL · x))
 |false=>none
noncomputable def isNone:V->Option Bool
 | .none=>some true
 | .bi _=>none
 |_=>some false
noncomputable def FW(a b:V):Option Bool:=match b with
 | .none=>isNone a
 |_=>none
noncomputable def vk(b:Option Bool):M V:=gO b λ b=>iS (.bool b)
noncomputable def jz{α:Type}(a b:V)(f:Int->Int->M α):M α:=gO (gD a) λ x=>gO (gD b) λ y=>f x y
noncomputable def LY(a:V)(o:d4):M V:=match o with
 | .list b=>vk (md a b)
 | .dM c=>gO (gD a) λ k=>iS (.bool (c.any (·.1==k)))
 |_=>bad
noncomputable def Yd(a b:V):M V:=match b with
 | .tup c=>vk (md a c)
 | .ref d=>λ s=>gO s[d]? (LY a) s
 |_=>bad
noncomputable def L9(a b:V):M V:=gO (A5 b) λ d=>gO (A4 a) λ k s=>gO (asQ s d) (λ c=>iS (.bool (!c.any (·.1==k)))) s
noncomputable def bz(c:CmpOp)(a b:V):M V:=match c with
 | .Eq=>λ s=>vk (lQ dY s a b) s
 | .NotEq=>λ s=>vk ((lQ dY s a b).map (!·)) s
 | .Is=>vk (FW a b)
 | .IsNot=>vk ((FW a b).map (!·))
 | .Lt=>jz a b λ x y=>iS (.bool (decide (x<y)))
 | .LtE=>jz a b λ x y=>iS (.bool (decide (x<=y)))
 | .Gt=>jz a b λ x y=>iS (.bool (decide (y<x)))
 | .GtE=>jz a b λ x y=>iS (.bool (decide (y<=x)))
 | .In=>Yd a b
 | .NotIn=>L9 a b
noncomputable def QP(a b:V):M V:=match a with
 | .int x=>gO (gD b) λ y=>iS (.int (x+y))
 |_=>λ s=>gO (vL s a) (λ d=>gO (vL s b) λ c=>lZ (d++c)) s
noncomputable def one{α:Type}:List α->Option α
 | []=>none
 |x::r=>match r with
  | []=>some x
  |_::_=>none
noncomputable def Mb(a b:V):M V:=gO (gD b) λ n=>match a with
 | .int x=>gB (iZ x&&iZ n) (iS (.int (x * n)))
 |_=>λ s=>gO ((vL s a).bind one) (λ v=>gB (decide (0<=n)&&decide (n<=1000)) (cY (.list (List.replicate n.toNat v)))) s
noncomputable def jo(c:Operator)(a b:V):M V:=match c with
 | .Add=>QP a b
 | .Sub=>jz a b λ x y=>iS (.int (x - y))
 | .Mult=>Mb a b
 | .Mod=>jz a b λ x y=>gB (!decide (y=0)) (iS (.int (Int.fmod x y)))
 | .FloorDiv=>jz a b λ x y=>gB (!decide (y=0)&&iZ y) (iS (.int (Int.fdiv x y)))
 | .LShift=>jz a b λ x y=>gB (iZ x&&decide (0<=y)&&decide (y<=64)) (iS (.int (x * 2 ^ y.toNat)))
 |_=>bad
noncomputable def L6(a:List V)(k:Int):Option V:=(kh k a.length).bind λ j=>a[j]?
noncomputable def Ip(o:d4)(i:V):M V:=match o with
 | .list a=>gO (gD i) λ k=>gO (L6 a k) iS
 | .fS b=>gO (A4 i) λ k=>gO (b.find? (·.1==k)) λ e=>iS e.2
 |_=>bad
noncomputable def cK(a i:V):M V:=match a with
 | .tup b=>gB (hU b) (gO (gD i) λ k=>gO (L6 b k) iS)
 | .ke c=>gO (gD i) λ k=>gO ((kh k c.length).bind λ j=>c[j]?) λ i=>iS (.int i)
 | .ref d=>λ s=>gO s[d]? (λ o=>Ip o i) s
 |_=>bad
noncomputable def xb(k:Int)(v:V)(a:List (Int×V)):List (Int×V):=if a.any (·.1==k)then a.map (λ e=>if e.1==k then(k,v)else e)else a++[(k,v)]
noncomputable def Il(d:Nat)(k:Int)(v:V)(o:d4):M Unit:=match o with
 | .list a=>gB (decide (0<=k)&&decide (k<a.length)) (BA d (.list (a.set k.toNat v)))
 | .dM b=>gB (decide (b.length<1000)) (BA d (.dM (xb k v b)))
 |_=>bad
noncomputable def ik(a i v:V):M Unit:=gO (A5 a) λ d=>gO (gD i) λ k s=>gO s[d]? (Il d k v) s
noncomputable def uY(a i:V):M V:=gO (gD i) λ l=>gB (decide (0<=l)&&iZ l) λ s=>gO (vL s a) (λ b=>cY (.list (b.drop l.toNat))) s
noncomputable def uZ(a i:V):M V:=gO (gD i) λ l=>gB (decide (0<=l)&&iZ l) λ s=>gO (vL s a) (λ b=>cY (.list (b.take l.toNat))) s
noncomputable def Fd(k:Nat):Bool:=k==7 || k==8 || k==29 || k==30 || k==64 || k==81
noncomputable def vN(s:St)(v:V):Option (Nat×List (Nat×V)):=(A5 v).bind (Xi s)
noncomputable def cM(a:V)(n:Nat):M V:=λ s=>gO (vN s a) (λ o=>gB (Fd o.1) (gO (o.2.lookup n) iS)) s
noncomputable def zE(n:Nat)(x:V):M V:=cM x n
noncomputable def iR(n:Nat)(v:V):List (Nat×V)->List (Nat×V)
 | []=> [(n,v)]
 |e::r=>if e.1=n then(n,v)::r else e::iR n v r
noncomputable def gY(a:V)(n:Nat)(v:V):M Unit:=gO (A5 a) λ d s=>gO (Xi s d) (λ o=>gB (Fd o.1&&decide (n<bH.length)) (BA d (.inst o.1 (iR n v o.2)))) s
noncomputable def jj:List V->Option (List Int)
 | []=>some []
 |v::r=>(gD v).bind λ i=>(jj r).map (i:: ·)
noncomputable def IB:List Int->Option Int
 | []=>none
 |x::r=>some (r.foldl (λ a b=>if b<a then b else a) x)
noncomputable def IC:List Int->Option Int
 | []=>none
 |x::r=>some (r.foldl (λ a b=>if a<b then b else a) x)
noncomputable def U9:V->Option Bool
 | .tup _=>some true
 | .int _=>some false
 |_=>none
noncomputable def I6:V->Option Bool
 | .str _=>some true
 | .int _| .tup _=>some false
 |_=>none
noncomputable def CH(s:St)(v t:V):Option Bool:=match t with
 | .bi b=>match b with
  | .lU=>U9 v
  | .nF=>I6 v
  |_=>none
 | .cls k=>(vN s v).bind λ o=>if o.1=k/\Fd k=true then some true else none
 |_=>none
noncomputable def yn{α:Type}:List α->Option (α×α)
 | []=>none
 |x::r=>(one r).map λ y=>(x,y)
noncomputable def iu(b:BI)(c:List V):M V:=λ s=>match b with
 | .len=>gO (one c) (λ v=>match v with
  | .ke d=>iS (.int d.length)
  |_=>gO (vL s v) λ a=>iS (.int a.length)) s
 | .min=>match yn c with
  |some p=>jz p.1 p.2 (λ x y=>iS (.int (if y<x then y else x))) s
  |none=>gO (one c) (λ v=>gO ((vL s v).bind λ a=>(jj a).bind IB) λ m=>iS (.int m)) s
 | .max=>match yn c with
  |some p=>jz p.1 p.2 (λ x y=>iS (.int (if x<y then y else x))) s
  |none=>gO (one c) (λ v=>gO ((vL s v).bind λ a=>(jj a).bind IC) λ m=>iS (.int m)) s
 | .list=>gO (one c) (λ v=>gO (vL s v) λ a=>cY (.list a)) s
 | .isinstance=>gO (yn c) (λ p=>vk (CH s p.1 p.2)) s
 |_=>.bad
noncomputable def Md(d:Nat)(o:d4)(m:Nat)(b:List V):M V:=match o with
 | .list a=>λ s=>match m with
  |0=>gO (one b) (λ v=>gB (hU (a++[v])) λ s=>.ok .none (s.set d (.list (a++[v])))) s
  |m+1=>match m with
   |0=>gO ((one b).bind (vL s)) (λ c=>gB (hU (a++c)) λ s=>.ok .none (s.set d (.list (a++c)))) s
   |_+1=>.bad
 | .dM f=>gB (m==2) (gO (yn b) λ p=>gO (gD p.1) λ k=>match f.find? (·.1==k)with
  |some e=>iS e.2
  |none=>iS p.2)
 |_=>bad
noncomputable def m0(o:V)(m:Nat)(a:List V):M V:=gO (A5 o) λ d s=>gO s[d]? (λ o=>Md d o m a) s
noncomputable def Ny(o:d4)(m:Nat):Bool:=match o with
 | .list _=>decide (m<2)
 | .dM _=>m==2
 |_=>false
noncomputable def ge(o:V)(m:Nat):M Unit:=gO (A5 o) λ d s=>gO s[d]? (λ o=>gB (Ny o m) (iS ())) s
section
variable{α:Type}
noncomputable def A7{α:Type}(a:α):α:=Classical.choose (⟨a,rfl⟩:∃x,x=a)
theorem gI(a:α):A7 a=a:=Classical.choose_spec (⟨a,rfl⟩:∃x,x=a)
theorem lq(h:A7 p):p:=by rw[gI]at h;exact h
theorem pO(h:p):A7 p:=by rw[gI];exact h
noncomputable def wp(m:M α)(Q:α->St->Prop)(E:Str->St->Prop)(s:St):Prop:=A7 (match m s with
 | .ok a b=>Q a b
 | .exc w b=>E w b
 | .bad=>False)
abbrev PT(α:Type):=(α->St->Prop)->(Str->St->Prop)->St->Prop
noncomputable def pw(m:PT α)(Q:α->St->Prop)(E:Str->St->Prop)(s:St):Prop:=m Q E s
end
noncomputable def zX(a:V):M V:=gO (gD a) λ i=>iS (.int (-i))
noncomputable def gb(x y:V):M (Int×Int):=jz x y λ a b=>gB (iZ a&&iZ b) (iS (a,b))
noncomputable def yx(c:List Nat)(b:List V)(a:Env):Env:=(c.zip b).foldl (λ a p=>a.set p.1 (some p.2)) a
noncomputable def lb(b:List Nat)(v:V)(c:Env):M Env:=gO (EO v) λ a=>gB (decide (b.length=a.length)) (iS (yx b a c))
noncomputable def fL(t:T)(v:V)(a:Env):M Env:=match t with
 | .one i=>λ s=>.ok (a.set i (some v)) s
 | .m b=>lb b v a
noncomputable def di(a b:Int):List Int:=(List.range (b - a).toNat).map fun(k:Nat)=>a+(k:Int)
structure I where
 ev:Env->E->PT V
 ex:Env->S->PT (Flow×Env)
section
variable{α β γ:Type}(I:I)(F C:Nat->Option Fn)
noncomputable def kU(f:V->M α)(Q:α->St->Prop)(X:Str->St->Prop):V->St->Prop:=λ x s=>wp (f x) Q X s
noncomputable def kB(f:V->V->M α)(x:V)(Q:α->St->Prop)(X:Str->St->Prop):V->St->Prop:=λ y s=>wp (f x y) Q X s
noncomputable def kA(a:Env)(b:E)(f:V->V->M α)(Q:α->St->Prop)(X:Str->St->Prop):V->St->Prop:=λ x s=>pw (I.ev a b) (kB f x Q X) X s
noncomputable def Ag(Q:V->St->Prop):V->St->Prop:=λ x s=>match x with
 | .bool b=>Q (.bool (!b)) s
 |_=>False
noncomputable def kj(Q:V->St->Prop):V->St->Prop:=λ x s=>match x with
 | .bool b=>Q (.bool b) s
 |_=>False
noncomputable def mc(Q R:St->Prop):V->St->Prop:=λ x s=>A7 (match x with
 | .bool b=>(match b with|true=>Q s|false=>R s)
 |_=>False)
noncomputable def kQ(Q:V->St->Prop)(v:V):St->Prop:=λ s=>Q v s
noncomputable def kE(a:Env)(e:E)(Q:V->St->Prop)(X:Str->St->Prop):St->Prop:=λ s=>pw (I.ev a e) Q X s
noncomputable def FQ(b:CmpOp)(x:V)(a:Env)(o2:CmpOp)(c:E)(Q:V->St->Prop)(X:Str->St->Prop):V->St->Prop:=λ y s=>wp (bz b x y) (mc (kE I a c (kB (bz o2) y Q X) X) (kQ Q (.bool false))) X s
noncomputable def yV(d:CmpOp)(a:Env)(b:E)(o2:CmpOp)(c:E)(Q:V->St->Prop)(X:Str->St->Prop):V->St->Prop:=λ x s=>pw (I.ev a b) (FQ I d x a o2 c Q X) X s
noncomputable def ro(Q:V->St->Prop):List V->St->Prop:=λ a s=>match hU a with
 |true=>Q (.tup a) s
 |false=>False
noncomputable def FL(Q:V->St->Prop)(X:Str->St->Prop):List V->St->Prop:=λ a s=>wp (lZ a) Q X s
noncomputable def yT(x:Str)(Q:V->St->Prop)(X:Str->St->Prop):V->St->Prop:=λ v s=>wp (cY (.fS [(x,v)])) Q X s
noncomputable def yU(v:V)(Q:List V->St->Prop):List V->St->Prop:=λ a s=>Q (v::a) s
noncomputable def Af(Q:V->St->Prop)(X:Str->St->Prop):Int×Int->St->Prop:=λ r s=>wp (lZ ((di r.1 r.2).map .int)) Q X s
noncomputable def tO(Q:V->St->Prop)(X:Str->St->Prop):List V×Env->St->Prop:=λ a s=>wp (lZ a.1) Q X s
noncomputable def Kr(k:Env->PT (Flow×Env))(Q:Flow×Env->St->Prop)(X:Str->St->Prop):Flow×Env->St->Prop:=λ x s=>match x.1 with
 | .next=>k x.2 Q X s
 |_=>Q x s
noncomputable def gC(Q:Flow×Env->St->Prop)(K:Env->St->Prop):Flow×Env->St->Prop:=λ x s=>match x.1 with
 | .ret v=>Q (.ret v,x.2) s
 |_=>K x.2 s
noncomputable def ko(Q:V->St->Prop):Flow×Env->St->Prop:=λ x s=>match x.1 with
 | .ret v=>Q v s
 | .next=>Q .none s
 | .cont=>False
noncomputable def tM(a:Env)(i:Nat)(Q:Flow×Env->St->Prop):V->St->Prop:=λ v s=>Q (.next,a.set i (some v)) s
noncomputable def FP(Q:Flow×Env->St->Prop):Env->St->Prop:=λ a s=>Q (.next,a) s
noncomputable def yP(a:Env)(b:List Nat)(Q:Flow×Env->St->Prop)(X:Str->St->Prop):V->St->Prop:=λ v s=>wp (lb b v a) (FP Q) X s
noncomputable def ja(a:Env)(Q:Flow×Env->St->Prop):α->St->Prop:=λ _ s=>Q (.next,a) s
noncomputable def FK(a:Env)(Q:Flow×Env->St->Prop):V->St->Prop:=λ v s=>Q (.ret v,a) s
noncomputable def tN(w:Str)(X:Str->St->Prop):V->St->Prop:=λ _ s=>X w s
noncomputable def yN(n:Nat)(v:V)(a:Env)(Q:Flow×Env->St->Prop)(X:Str->St->Prop):V->St->Prop:=λ x s=>wp (gY x n v) (ja a Q) X s
noncomputable def tL(b:Env)(a:E)(n:Nat)(Q:Flow×Env->St->Prop)(X:Str->St->Prop):V->St->Prop:=λ v s=>pw (I.ev b a) (yN n v b Q X) X s
noncomputable def yM(x v:V)(a:Env)(Q:Flow×Env->St->Prop)(X:Str->St->Prop):V->St->Prop:=λ y s=>wp (ik x y v) (ja a Q) X s
noncomputable def tJ(v:V)(a:Env)(i:E)(Q:Flow×Env->St->Prop)(X:Str->St->Prop):V->St->Prop:=λ x s=>pw (I.ev a i) (yM x v a Q X) X s
noncomputable def tK(b:Env)(a i:E)(Q:Flow×Env->St->Prop)(X:Str->St->Prop):V->St->Prop:=λ v s=>pw (I.ev b a) (tJ I v b i Q X) X s
noncomputable def tS(a:Env)(b:Operator)(e:E)(Q:V->St->Prop)(X:Str->St->Prop):V->St->Prop:=λ x s=>match x with
 | .int z=>pw (I.ev a e) (kB (jo b) (.int z) Q X) X s
 |_=>False
noncomputable def qe(x y:V)(a:Env)(Q:Flow×Env->St->Prop)(X:Str->St->Prop):V->St->Prop:=λ r s=>wp (ik x y r) (ja a Q) X s
noncomputable def yW(x:V)(a:Env)(b:Operator)(e:E)(Q:Flow×Env->St->Prop)(X:Str->St->Prop):V->St->Prop:=λ y s=>wp (cK x y) (tS I a b e (qe x y a Q X) X) X s
noncomputable def tR(a:Env)(i:E)(b:Operator)(e:E)(Q:Flow×Env->St->Prop)(X:Str->St->Prop):V->St->Prop:=λ x s=>pw (I.ev a i) (yW I x a b e Q X) X s
noncomputable def FO(k:PT (List V))(Q:List V->St->Prop)(X:Str->St->Prop):V->St->Prop:=λ v s=>pw k (yU v Q) X s
noncomputable def v8(a:Env):List E->PT (List V)
 | []=>λ Q _ s=>Q [] s
 |e::r=>λ Q X s=>pw (I.ev a e) (FO (v8 a r) Q X) X s
noncomputable def execs:List S->Env->PT (Flow×Env)
 | [],a=>λ Q _ s=>Q (.next,a) s
 |st::r,a=>λ Q X s=>pw (I.ex a st) (Kr (execs r) Q X) X s
noncomputable def kX(b:List S)(a:Env)(Q:Flow×Env->St->Prop)(X:Str->St->Prop):St->Prop:=λ s=>A7 (pw (execs I b a) Q X s)
noncomputable def ij(b:Fn)(a:List V):Option Env:=
 if b.params.length=a.length then some ((b.params.zip a).foldl (λ c p=>c.set p.1 (some p.2)) (List.replicate b.nv none))else none
noncomputable def iY(b:Fn)(a:List V):PT V:=λ Q X s=>match ij b a with
 |some c=>pw (execs I b.body c) (ko Q) X s
 |none=>False
noncomputable def kG:Nat:=1000
noncomputable def CF(r:V)(Q:V->St->Prop):V->St->Prop:=λ v s=>match v with| .none=>Q r s|_=>False
noncomputable def m4(a:Fn)(b:List V)(Q:V->St->Prop)(X:Str->St->Prop):V->St->Prop:=λ r s=>pw (iY I a (r::b)) (CF r Q) X s
noncomputable def nj(f:V)(d:List V):PT V:=match f with
 | .fn k=>λ Q X s=>match (if k=kG then none else F k)with
  |some c=>pw (iY I c d) Q X s
  |none=>False
 | .cls k=>λ Q X s=>match C k with
  |some c=>wp (cY (.inst k [])) (m4 I c d Q X) X s
  |none=>False
 | .bi b=>λ Q X s=>wp (iu b d) Q X s
 | .ref a=>λ Q X s=>∃l c,s[a]?= some (.tell l)/\F kG=some c/\d.length=2/\pw (iY I c (d++[.ref l])) Q X s
 |_=>λ _ _ _=>False
noncomputable def yX(g:V)(Q:V->St->Prop)(X:Str->St->Prop):List V->St->Prop:=λ a s=>A7 (pw (nj I F C g a) Q X s)
noncomputable def FN(a:Env)(b:List E)(Q:V->St->Prop)(X:Str->St->Prop):V->St->Prop:=λ g s=>pw (v8 I a b) (yX I F C g Q X) X s
noncomputable def Ru(k:Nat)(p q:List V)(Q:V->St->Prop)(X:Str->St->Prop):V->St->Prop:=λ v s=>A7 (pw (nj I F C (.cls k) (p++v::q)) Q X s)
noncomputable def yO(x:V)(m:Nat)(Q:V->St->Prop)(X:Str->St->Prop):List V->St->Prop:=λ a s=>wp (m0 x m a) Q X s
noncomputable def tP(x:V)(a:Env)(m:Nat)(b:List E)(Q:V->St->Prop)(X:Str->St->Prop):Unit->St->Prop:=λ _ s=>pw (v8 I a b) (yO x m Q X) X s
noncomputable def tQ(a:Env)(m:Nat)(b:List E)(Q:V->St->Prop)(X:Str->St->Prop):V->St->Prop:=λ x s=>wp (ge x m) (tP I x a m b Q X) X s
noncomputable def jy(b:List S)(Q:Flow×Env->St->Prop)(X:Str->St->Prop):Env->St->Prop:=λ a s=>A7 (pw (execs I b a) Q X s)
noncomputable def ue(t:T)(b:List S)(a:Nat):Nat->Nat->Env->PT (Flow×Env)
 |0,_,_=>λ _ _ _=>False
 |k+1,i,c=>λ Q X s=>∃d,s[a]?= some (.list d)/\match d[i]? with
   |none=>Q (.next,c) s
   |some v=>wp (fL t v c) (jy I b (gC Q (λ e s=>ue t b a k (i+1) e Q X s)) X) X s
noncomputable def rA(t:T)(b:List S):List Int->Env->PT (Flow×Env)
 | [],a=>λ Q _ s=>Q (.next,a) s
 |i::r,a=>λ Q X s=>wp (fL t (.int i) a) (jy I b (gC Q (λ c s=>rA t b r c Q X s)) X) X s
noncomputable def jg(a:Env)(lo:Option E)(b:E):PT (Int×Int):=match lo with
 |none=>λ Q X s=>pw (I.ev a b) (kB gb (.int 0) Q X) X s
 |some lo=>λ Q X s=>pw (I.ev a lo) (kA I a b gb Q X) X s
noncomputable def yS(t:T)(b:List S)(a:Env)(Q:Flow×Env->St->Prop)(X:Str->St->Prop):Int×Int->St->Prop:=λ r s=>pw (rA I t b (di r.1 r.2) a) Q X s
noncomputable def yR(t:T)(b:List S)(d:Env)(Q:Flow×Env->St->Prop)(X:Str->St->Prop):V->St->Prop:=λ v s=>∃a c,v=.ref a/\s[a]?= some (.list c)/\pw (ue I t b a (c.length+1) 0 d) Q X s
noncomputable def iX(a:Env):List E->PT Bool
 | []=>λ Q _ s=>Q true s
 |e::r=>λ Q X s=>pw (I.ev a e) (mc (λ s=>iX a r Q X s) (Q false)) X s
noncomputable def vF(c:Env->PT (List V×Env))(a:Env)(Q:List V×Env->St->Prop)(X:Str->St->Prop):Bool->St->Prop:=λ b s=>match b with
 |true=>pw (c a) Q X s
 |false=>Q ([],a) s
noncomputable def yK(c:Env->PT (List V×Env))(a:List E)(Q:List V×Env->St->Prop)(X:Str->St->Prop):Env->St->Prop:=λ b s=>pw (iX I b a) (vF c b Q X) X s
noncomputable def uQ(c:Env->PT (List V×Env))(t:T)(a:List E)(v:V)(b:Env):PT (List V×Env):=λ Q X s=>wp (fL t v b) (yK I c a Q X) X s
noncomputable def oO(k:Env->PT (List V×Env))(t:T)(a:List E):List V->Env->PT (List V×Env)
 | [],b=>λ Q _ s=>Q ([],b) s
 |v::r,b=>λ Q X s=>pw (uQ I k t a v b) (λ x s=>pw (oO k t a r x.2) (λ y s=>Q (x.1++y.1,y.2) s) X s) X s
noncomputable def iL(k:Env->PT (List V×Env))(t:T)(b:List E)(a:Nat):Nat->Nat->Env->PT (List V×Env)
 |0,_,_=>λ _ _ _=>False
 |n+1,i,c=>λ Q X s=>∃d,s[a]?= some (.list d)/\match d[i]? with
   |none=>Q ([],c) s
   |some v=>pw (uQ I k t b v c) (λ x s=>pw (iL k t b a n (i+1) x.2) (λ y s=>Q (x.1++y.1,y.2) s) X s) X s
noncomputable def vG(Q:Nat⊕List Int->St->Prop):V->St->Prop:=λ v s=>match v with| .ref a=>Q (.inl a) s|_=>False
noncomputable def yL(Q:Nat⊕List Int->St->Prop):Int×Int->St->Prop:=λ r s=>Q (.inr (di r.1 r.2)) s
noncomputable def rk(a:Env):o6->PT (Nat⊕List Int)
 | .inl e=>λ Q X s=>pw (I.ev a e) (vG Q) X s
 | .inr (lo,b)=>λ Q X s=>pw (jg I a lo b) (yL Q) X s
noncomputable def iq(k:Env->PT (List V×Env))(t:T)(b:List E)(x:Nat⊕List Int)(d:Env):PT (List V×Env):=match x with
 | .inl a=>λ Q X s=>∃c,s[a]?= some (.list c)/\pw (iL I k t b a (c.length+1) 0 d) Q X s
 | .inr c=>λ Q X s=>pw (oO I k t b (c.map .int) d) Q X s
noncomputable def yQ(a:Env)(Q:List V×Env->St->Prop):V->St->Prop:=λ v s=>Q ([v],a) s
noncomputable def Ae(k:Env->PT (List V×Env))(t:T)(a:List E)(b:Env)(Q:List V×Env->St->Prop)(X:Str->St->Prop):Nat⊕List Int->St->Prop:=λ x s=>pw (iq I k t a x b) Q X s
noncomputable def gq(b:E):List (T×o6×List E)->Env->PT (List V×Env)
 | [],a=>λ Q X s=>pw (I.ev a b) (yQ a Q) X s
 |(t,d,c)::gs,a=>λ Q X s=>pw (rk I a d) (Ae I (gq b gs) t c a Q X) X s
noncomputable def sf{α:Type}(m:PT α):PT α:=λ Q _ s=>pw m Q (λ _ _=>False) s
noncomputable def lS(a:Env)(b:List (Option Nat)):Env:=b.map fun
 |some i=>(a[i]?).getD none
 |none=>none
noncomputable def vH(b:E)(gs:List (T×o6×List E))(t:T)(a:List E)(c:Env)(Q:V->St->Prop)(X:Str->St->Prop):Nat⊕List Int->St->Prop:=λ x s=>pw (sf (iq I (gq I b gs) t a x c)) (tO Q X) X s
noncomputable def Zg(d:Env):E->PT V
 | .v i=>λ Q _ s=>match (d[i]?).getD none with|some v=>Q v s|none=>False
 | .k v=>λ Q _ s=>Q v s
 | .b h a b=>λ Q X s=>pw (I.ev d a) (kA I d b (jo h) Q X) X s
 | .neg a=>λ Q X s=>pw (I.ev d a) (kU zX Q X) X s
 | .not a=>λ Q X s=>pw (I.ev d a) (Ag Q) X s
 | .p a b=>λ Q X s=>pw (I.ev d a) (mc (kE I d b (kj Q) X) (kQ Q (.bool false))) X s
 | .q a b=>λ Q X s=>pw (I.ev d a) (mc (kQ Q (.bool true)) (kE I d b (kj Q) X)) X s
 | .c h a b=>λ Q X s=>pw (I.ev d a) (kA I d b (bz h) Q X) X s
 | .ut a y b o2 c=>λ Q X s=>pw (I.ev d a) (yV I y d b o2 c Q X) X s
 | .ite c a b=>λ Q X s=>pw (I.ev d c) (mc (kE I d a Q X) (kE I d b Q X)) X s
 | .tup r=>λ Q X s=>pw (v8 I d r) (ro Q) X s
 | .l r=>λ Q X s=>pw (v8 I d r) (FL Q X) X s
 | .emptyDict=>λ Q X s=>wp (cY (.dM [])) Q X s
 | .fS x e=>λ Q X s=>pw (I.ev d e) (yT x Q X) X s
 | .i a i=>λ Q X s=>pw (I.ev d a) (kA I d i cK Q X) X s
 | .sl a lo A=>match lo,A with
  |some e,none=>λ Q X s=>pw (I.ev d a) (kA I d e uY Q X) X s
  |none,some e=>λ Q X s=>pw (I.ev d a) (kA I d e uZ Q X) X s
  |_,_=>λ _ _ _=>False
 | .t a n=>λ Q X s=>pw (I.ev d a) (kU (zE n) Q X) X s
 | .call f w=>λ Q X s=>pw (I.ev d f) (FN I F C d w Q X) X s
 | .sN k p e q=>λ Q X s=>pw (I.ev d e) (Ru I F C k p q Q X) X s
 | .fY o m w=>λ Q X s=>pw (I.ev d o) (tQ I d m w Q X) X s
 | .pZ a b=>λ Q X s=>pw (I.ev d a) (kA I d b gb (Af Q X) X) X s
 | .comp B u g=>match g with
  | []=>λ _ _ _=>False
  |(t,z,j)::gs=>λ Q X s=>pw (rk I d z) (vH I u gs t j (lS d B) Q X) X s
noncomputable def Ze(d:Env):S->PT (Flow×Env)
 | .a t e=>match t with
  | .one i=>λ Q X s=>pw (I.ev d e) (tM d i Q) X s
  | .m j=>λ Q X s=>pw (I.ev d e) (yP d j Q X) X s
 | .dc a i e=>λ Q X s=>pw (I.ev d e) (tK I d a i Q X) X s
 | .aC a n e=>λ Q X s=>pw (I.ev d e) (tL I d a n Q X) X s
 | .lz i g e=>λ Q X s=>wp (sb ((d[i]?).getD none)) (tS I d g e (tM d i Q) X) X s
 | .mv a i g e=>λ Q X s=>pw (I.ev d a) (tR I d i g e Q X) X s
 | .e e=>λ Q X s=>pw (I.ev d e) (ja d Q) X s
 | .ez c t f=>λ Q X s=>pw (I.ev d c) (mc (kX I t d Q X) (kX I f d Q X)) X s
 | .ek t h b=>match h with
  | .inl h=>λ Q X s=>pw (I.ev d h) (yR I t b d Q X) X s
  | .inr r=>λ Q X s=>pw (jg I d r.1 r.2) (yS I t b d Q X) X s
 | .nA c=>λ Q X s=>pw (I.ev d c) (mc (λ _=>False) (λ s=>Q (.next,d) s)) X s
 | .ret e=>match e with
  |none=>λ Q _ s=>Q (.ret .none,d) s
  |some e=>λ Q X s=>pw (I.ev d e) (FK d Q) X s
 | .raise w e=>λ _ X s=>pw (I.ev d e) (tN w X) X s
 | .cont=>λ Q _ s=>Q (.cont,d) s
 | .bad=>λ _ _ _=>False
end
noncomputable def KN(F C:Nat->Option Fn):Nat->I
 |0=>⟨λ _ _ _ _ _=>False,λ _ _ _ _ _=>False⟩
 |n+1=>⟨λ a e=>Zg (KN F C n) F C a e,λ a st=>Ze (KN F C n) a st⟩
example:True:=by have:= @iR.eq_def;trivial
end
section
open PySem
noncomputable def P9:Fn:=⟨[0],2,[
 .raise "constraint_error" (.v 0)]⟩
noncomputable def P8:Fn:=⟨[0,1],3,[
 .ret (some (.call (.k (.bi .max)) [(.b .Add (.b .Sub (.v 1) (.v 0)) (.k (.int 1))),(.k (.int 0))]))]⟩
noncomputable def P7:Fn:=⟨[0,1],7,[
 .a (.one 2) (.k (.int 1)),
 .ek (.m [3,4]) (.inl (.v 0)) [.a (.one 2) (.b .Mult (.v 2) (.call (.k (.fn 16)) [(.v 3),(.v 4)]))],
 .ez (.c .Gt (.v 2) (.t (.v 1) 57)) [.raise "storage_error" (.k (.str "an array too great"))] [],
 .ret (some (.v 2))]⟩
noncomputable def P6:Fn:=⟨[0,1],10,[
 .ek (.one 2) (.inr (none,(.call (.k (.bi .len)) [(.v 0)]))) [.a (.m [3,4]) (.i (.v 0) (.v 2)),.a (.m [5,6]) (.i (.v 1) (.v 2)),.ez (.p (.c .LtE (.v 3) (.v 4)) (.q (.c .Lt (.v 3) (.v 5)) (.c .Gt (.v 4) (.v 6)))) [.e (.call (.k (.fn 15)) [(.k (.str "an index beyond its subtype"))])] []]]⟩
noncomputable def P5:Fn:=⟨[0],8,[
 .a (.one 1) (.k .none),
 .ek (.m [2,3]) (.inl (.v 0)) [.ek (.m [4,5]) (.inl (.v 2)) [.ez (.q (.c .Is (.v 1) (.k .none)) (.p (.c .Gt (.i (.v 1) (.k (.int 0))) (.i (.v 1) (.k (.int 1)))) (.c .LtE (.v 4) (.v 5)))) [.a (.one 1) (.tup [(.v 4),(.v 5)])] [.ez (.c .LtE (.v 4) (.v 5)) [.a (.one 1) (.tup [(.call (.k (.bi .min)) [(.i (.v 1) (.k (.int 0))),(.v 4)]),(.call (.k (.bi .max)) [(.i (.v 1) (.k (.int 1))),(.v 5)])])] []]]],
 .ret (some (.v 1))]⟩
noncomputable def P4:Fn:=⟨[0,1,2],6,[
 .ez (.p (.c .Gt (.call (.k (.bi .len)) [(.v 0)]) (.k (.int 0))) (.c .Eq (.i (.i (.v 0) (.b .Sub (.call (.k (.bi .len)) [(.v 0)]) (.k (.int 1)))) (.k (.int 0))) (.k (.str "others")))) [.ret (some (.v 1))] [],
 .ez (.p (.c .Gt (.call (.k (.bi .len)) [(.v 0)]) (.k (.int 0))) (.c .IsNot (.i (.i (.v 0) (.k (.int 0))) (.k (.int 0))) (.k .none))) [.ret (some (.call (.k (.fn 21)) [(.v 0)]))] [],
 .ez (.c .IsNot (.v 1) (.k .none)) [.a (.one 2) (.i (.v 1) (.k (.int 0)))] [],
 .ret (some (.tup [(.v 2),(.b .Sub (.b .Add (.v 2) (.call (.k (.bi .len)) [(.v 0)])) (.k (.int 1)))]))]⟩
noncomputable def P2:Fn:=⟨[0,1,2,3],5,[
 .ez (.not (.ut (.i (.v 1) (.k (.int 0))) .LtE (.v 2) .LtE (.i (.v 1) (.k (.int 1))))) [.e (.call (.k (.fn 15)) [(.k (.str "an aggregate's index beyond its bounds"))])] [],
 .ez (.c .GtE (.i (.v 0) (.b .Sub (.v 2) (.i (.v 1) (.k (.int 0))))) (.k (.int 0))) [.e (.call (.k (.fn 15)) [(.k (.str "an aggregate's index told twice"))])] [],
 .dc (.v 0) (.b .Sub (.v 2) (.i (.v 1) (.k (.int 0)))) (.v 3)]⟩
noncomputable def P1:Fn:=⟨[0,1,2],16,[
 .a (.one 3) (.b .Mult (.l [(.neg (.k (.int 1)))]) (.call (.k (.fn 17)) [(.l [(.v 0)]),(.v 2)])),
 .a (.one 4) (.i (.v 0) (.k (.int 0))),
 .a (.one 5) (.neg (.k (.int 1))),
 .ek (.one 6) (.inr (none,(.call (.k (.bi .len)) [(.v 1)]))) [.a (.one 7) (.i (.i (.v 1) (.v 6)) (.k (.int 0))),.ez (.c .Is (.v 7) (.k .none)) [.e (.call (.k (.fn 23)) [(.v 3),(.v 0),(.v 4),(.v 6)]),.lz 4 .Add (.k (.int 1))] [.ez (.c .Eq (.v 7) (.k (.str "others"))) [.a (.one 5) (.v 6)] [.e (.call (.k (.fn 25)) [(.v 3),(.v 0),(.v 7),(.v 6)])]]],
 .ek (.one 8) (.inr (none,(.call (.k (.bi .len)) [(.v 3)]))) [.ez (.c .Lt (.i (.v 3) (.v 8)) (.k (.int 0))) [.ez (.c .Lt (.v 5) (.k (.int 0))) [.e (.call (.k (.fn 15)) [(.k (.str "an aggregate that lacks an index"))])] [],.dc (.v 3) (.v 8) (.v 5)] []],
 .ret (some (.v 3))]⟩
noncomputable def P0:Fn:=⟨[0,1,2,3],10,[
 .ek (.m [4,5]) (.inl (.v 2)) [.ez (.p (.c .LtE (.v 4) (.v 5)) (.q (.c .Lt (.v 4) (.i (.v 1) (.k (.int 0)))) (.c .Gt (.v 5) (.i (.v 1) (.k (.int 1)))))) [.e (.call (.k (.fn 15)) [(.k (.str "an aggregate's index beyond its bounds"))])] [],.ek (.one 6) (.inr ((some (.v 4)),(.b .Add (.v 5) (.k (.int 1))))) [.e (.call (.k (.fn 23)) [(.v 0),(.v 1),(.v 6),(.v 3)])]]]⟩
noncomputable def PZ:Fn:=⟨[0,1],8,[
 .a (.one 2) (.t (.i (.v 1) (.k (.int 0))) 4),
 .a (.one 3) (.l []),
 .ek (.one 4) (.inl (.v 1)) [.ez (.c .NotEq (.call (.k (.bi .list)) [(.t (.v 4) 4)]) (.call (.k (.bi .list)) [(.v 2)])) [.e (.call (.k (.fn 15)) [(.k (.str "rows of unlike bounds"))])] [],.e (.fY (.v 3) 1 [(.t (.v 4) 5)])],
 .ret (some (.call (.k (.cls 8)) [(.b .Add (.l [(.v 0)]) (.call (.k (.bi .list)) [(.v 2)])),(.v 3)]))]⟩
noncomputable def PY:Fn:=⟨[0],1,[
 .ret (some (.tup [(.neg (.b .LShift (.k (.int 1)) (.b .Sub (.v 0) (.k (.int 1))))),(.b .Sub (.b .LShift (.k (.int 1)) (.b .Sub (.v 0) (.k (.int 1)))) (.k (.int 1)))]))]⟩
noncomputable def PX:Fn:=⟨[0,1,2],5,[
 .a (.one 3) (.call (.k (.cls 29)) [(.k (.str "int")),(.v 0)]),
 .aC (.v 3) 11 (.v 1),
 .aC (.v 3) 12 (.v 2),
 .ret (some (.v 3))]⟩
noncomputable def PW:Fn:=⟨[0,1,2,3],7,[
 .a (.one 4) (.call (.k (.cls 29)) [(.k (.str "array")),(.v 0)]),
 .aC (.v 4) 16 (.call (.k (.bi .list)) [(.v 1)]),
 .aC (.v 4) 17 (.v 2),
 .aC (.v 4) 18 (.v 3),
 .ret (some (.v 4))]⟩
noncomputable def PV:Fn:=⟨[0,1],2,[
 .aC (.v 0) 9 (.v 1),
 .ret (some (.v 0))]⟩
noncomputable def PU:Fn:=⟨[0],2,[
 .ret (some (.c .In (.t (.v 0) 8) (.k (.tup [(.str "enum"),(.str "int"),(.str "mod"),(.str "fixed"),(.str "universal")]))))]⟩
noncomputable def WA:Fn:=⟨[0],2,[
 .ret (some (.call (.k (.cls 30)) [(.v 0),(.k .none)]))]⟩
noncomputable def PS:Fn:=⟨[0],6,[
 .a (.m [1,2]) (.call (.k (.fn 31)) [(.v 0)]),
 .ret (some (.call (.k (.fn 34)) [(.call (.k (.fn 32)) [(.k (.str "integer")),(.v 1),(.v 2)]),(.k (.int 5))]))]⟩
noncomputable def PR:Fn:=⟨[0],6,[
 .a (.one 1) (.k (.int 0)),
 .nA (.p (.c .Eq (.t (.t (.v 0) 6) 8) (.k (.str "private"))) (.c .IsNot (.t (.t (.v 0) 6) 22) (.k .none))),
 .ret (some (.v 0))]⟩
noncomputable def PQ:Fn:=⟨[0],3,[
 .ez (.c .NotEq (.t (.v 0) 8) (.k (.str "private"))) [.ret (some (.v 0))] [],
 .ret (some (.t (.call (.k (.fn 40)) [(.call (.k (.cls 30)) [(.v 0),(.k .none)])]) 6))]⟩
noncomputable def PP:Fn:=⟨[0],2,[
 .raise "constraint_error" (.v 0)]⟩
noncomputable def PO:Fn:=⟨[0],1,[
 .ez (.c .Is (.t (.v 0) 7) (.k .none)) [.ret (some (.tup [(.t (.t (.v 0) 6) 11),(.t (.t (.v 0) 6) 12)]))] [],
 .ret (some (.tup [(.i (.t (.v 0) 7) (.k (.int 1))),(.i (.t (.v 0) 7) (.k (.int 2)))]))]⟩
noncomputable def JV:Fn:=⟨[0,1,2],3,[
 .ret (some (.p (.q (.c .Is (.v 1) (.k .none)) (.c .GtE (.v 0) (.v 1))) (.q (.c .Is (.v 2) (.k .none)) (.c .LtE (.v 0) (.v 2)))))]⟩
noncomputable def PN:Fn:=⟨[0,1],6,[
 .a (.m [2,3]) (.call (.k (.fn 51)) [(.v 0)]),
 .ret (some (.call (.k (.fn 52)) [(.v 1),(.v 2),(.v 3)]))]⟩
noncomputable def PM:Fn:=⟨[0,1],4,[
 .ez (.not (.call (.k (.fn 53)) [(.v 0),(.v 1)])) [.e (.call (.k (.fn 50)) [(.k (.str "range check"))])] [],
 .ret (some (.v 1))]⟩
noncomputable def PL:Fn:=⟨[0],1,[
 .ret (some (.comp [none,none,none] (.call (.k (.fn 51)) [(.v 1)]) [((.one 1),(.inl (.t (.v 0) 16)),[])]))]⟩
noncomputable def PK:Fn:=⟨[0],3,[
 .a (.one 0) (.call (.k (.fn 40)) [(.v 0)]),
 .ez (.c .IsNot (.t (.v 0) 7) (.k .none)) [.ret (some (.i (.t (.v 0) 7) (.k (.int 1))))] [],
 .ez (.t (.t (.v 0) 6) 18) [.ret (some (.call (.k (.fn 57)) [(.t (.v 0) 6)]))] [],
 .ret (some (.k .none))]⟩
noncomputable def PJ:Fn:=⟨[0,1],9,[
 .a (.one 0) (.call (.k (.fn 40)) [(.v 0)]),
 .a (.one 2) (.t (.v 0) 6),
 .ez (.call (.k (.fn 35)) [(.v 2)]) [.ret (some (.call (.k (.fn 54)) [(.v 0),(.v 1)]))] [],
 .ez (.c .Eq (.t (.v 2) 8) (.k (.str "array"))) [.ret (some (.call (.k (.fn 59)) [(.v 0),(.v 1)]))] [],
 .ez (.p (.c .Eq (.t (.v 2) 8) (.k (.str "record"))) (.c .IsNot (.t (.v 0) 7) (.k .none))) [.e (.call (.k (.fn 47)) [(.v 1),(.i (.t (.v 0) 7) (.k (.int 1)))])] [],
 .ret (some (.call (.k (.fn 11)) [(.v 1)]))]⟩
noncomputable def PI:Fn:=⟨[0,1],3,[
 .ez (.c .NotIn (.i (.v 1) (.k (.int 0))) (.t (.v 0) 30)) [.raise "program_error" (.k (.str "no such expression"))] [],
 .ret (some (.call (.i (.t (.v 0) 30) (.i (.v 1) (.k (.int 0)))) [(.v 0),(.v 1)]))]⟩
noncomputable def JU:Fn:=⟨[0,1],4,[
 .ez (.call (.k (.bi .isinstance)) [(.v 1),(.k (.bi .lU))]) [.ret (some (.call (.i (.t (.v 0) 30) (.i (.v 1) (.k (.int 0)))) [(.v 0),(.v 1)]))] [],
 .ret (some (.v 1))]⟩
noncomputable def JT:Fn:=⟨[0,1],16,[
 .ez (.c .Is (.t (.v 1) 7) (.k .none)) [.ret (some (.v 1))] [],
 .a (.one 2) (.i (.t (.v 1) 7) (.k (.int 0))),
 .ez (.c .Eq (.v 2) (.k (.str "named"))) [.ret (some (.call (.k (.fn 66)) [(.v 0),(.i (.t (.v 1) 7) (.k (.int 1))),(.i (.t (.v 1) 7) (.k (.int 2)))]))] [],
 .ez (.c .Eq (.v 2) (.k (.str "range"))) [.a (.one 3) (.call (.k (.fn 68)) [(.v 0),(.i (.t (.v 1) 7) (.k (.int 1)))]),.a (.one 4) (.call (.k (.fn 68)) [(.v 0),(.i (.t (.v 1) 7) (.k (.int 2)))]),.e (.call (.k (.fn 55)) [(.call (.k (.fn 36)) [(.call (.k (.fn 41)) [(.t (.v 1) 6)])]),(.v 3),(.v 4)]),.ret (some (.call (.k (.cls 30)) [(.t (.v 1) 6),(.tup [(.k (.str "range")),(.v 3),(.v 4)])]))] [],
 .a (.one 5) (.l []),
 .ek (.m [6,7]) (.inl (.i (.t (.v 1) 7) (.k (.int 1)))) [.a (.one 8) (.ite (.c .Eq (.v 2) (.k (.str "index"))) (.call (.k (.fn 68)) [(.v 0),(.v 6)]) (.v 6)),.e (.fY (.v 5) 0 [(.tup [(.v 8),(.call (.k (.fn 68)) [(.v 0),(.v 7)])])])],
 .ez (.c .Eq (.v 2) (.k (.str "index"))) [.e (.call (.k (.fn 20)) [(.v 5),(.comp [none,none,none] (.call (.k (.fn 51)) [(.v 1)]) [((.one 1),(.inl (.t (.call (.k (.fn 41)) [(.t (.v 1) 6)]) 16)),[])])])] [],
 .ret (some (.call (.k (.cls 30)) [(.t (.v 1) 6),(.tup [(.v 2),(.v 5)])]))]⟩
noncomputable def Gk:Fn:=⟨[0,1],8,[
 .ez (.q (.c .Is (.v 1) (.k .none)) (.c .Eq (.v 1) (.k (.str "others")))) [.ret (some (.v 1))] [],
 .a (.one 2) (.l []),
 .ek (.m [3,4]) (.inl (.v 1)) [.a (.one 5) (.call (.k (.fn 68)) [(.v 0),(.v 3)]),.e (.fY (.v 2) 0 [(.tup [(.v 5),(.call (.k (.fn 68)) [(.v 0),(.v 4)])])])],
 .ret (some (.v 2))]⟩
noncomputable def Wz:Fn:=⟨[0,1,2,3,4,5],16,[
 .a (.one 6) (.b .Mult (.l [(.k .none)]) (.call (.k (.bi .len)) [(.v 5)])),
 .a (.one 7) (.comp [none,none] (.l []) [((.one 1),(.inl (.v 2)),[])]),
 .ek (.one 8) (.inr (none,(.call (.k (.bi .len)) [(.v 5)]))) [.e (.fY (.i (.v 7) (.i (.v 5) (.v 8))) 0 [(.v 8)])],
 .ek (.one 9) (.inr (none,(.call (.k (.bi .len)) [(.v 2)]))) [.a (.one 10) (.i (.i (.v 2) (.v 9)) (.k (.int 1))),.ek (.one 8) (.inl (.i (.v 7) (.v 9))) [.ez (.c .Lt (.b .Add (.v 4) (.k (.int 1))) (.call (.k (.bi .len)) [(.t (.v 1) 16)])) [.dc (.v 6) (.v 8) (.call (.k (.fn 74)) [(.v 0),(.v 1),(.i (.v 10) (.k (.int 3))),(.v 3),(.b .Add (.v 4) (.k (.int 1)))])] [.dc (.v 6) (.v 8) (.call (.k (.fn 60)) [(.t (.v 1) 17),(.call (.k (.fn 62)) [(.v 0),(.v 10)])])]]],
 .ret (some (.v 6))]⟩
noncomputable def PH:Fn:=⟨[0,1,2,3],7,[
 .a (.one 4) (.ite (.c .IsNot (.v 1) (.k .none)) (.sl (.v 1) (some (.b .Add (.v 2) (.k (.int 1)))) none) (.comp [none,none] (.tup [(.k (.int 1)),(.k (.int 0))]) [((.one 1),(.inl (.sl (.t (.v 3) 16) (some (.b .Add (.v 2) (.k (.int 1)))) none)),[])])),
 .ret (some (.call (.k (.cls 8)) [(.b .Add (.l [(.v 0)]) (.call (.k (.bi .list)) [(.v 4)])),(.l [])]))]⟩
noncomputable def Wy:Fn:=⟨[0,1,2,3,4],20,[
 .a (.one 5) (.comp [none,none,none,some 2,some 0] (.tup [(.call (.k (.fn 71)) [(.v 4),(.i (.i (.v 3) (.v 1)) (.k (.int 0)))]),(.v 1)]) [((.one 1),(.inr (none,(.call (.k (.bi .len)) [(.v 2)]))),[])]),
 .a (.one 6) (.i (.call (.k (.fn 51)) [(.i (.t (.v 1) 16) (.v 4))]) (.k (.int 0))),
 .a (.one 7) (.call (.k (.fn 22)) [(.v 5),(.ite (.c .Is (.v 3) (.k .none)) (.k .none) (.i (.v 3) (.v 4))),(.v 6)]),
 .ez (.c .Is (.v 7) (.k .none)) [.e (.call (.k (.fn 15)) [(.k (.str "others without bounds"))])] [],
 .a (.one 8) (.call (.k (.fn 24)) [(.v 7),(.v 5),(.t (.v 0) 29)]),
 .a (.one 9) (.call (.k (.fn 72)) [(.v 0),(.v 1),(.v 2),(.v 3),(.v 4),(.v 8)]),
 .ez (.c .Eq (.b .Add (.v 4) (.k (.int 1))) (.call (.k (.bi .len)) [(.t (.v 1) 16)])) [.ret (some (.call (.k (.cls 8)) [(.l [(.v 7)]),(.v 9)]))] [],
 .ez (.c .Eq (.v 9) (.l [])) [.ret (some (.call (.k (.fn 73)) [(.v 7),(.v 3),(.v 4),(.v 1)]))] [],
 .ret (some (.call (.k (.fn 26)) [(.v 7),(.v 9)]))]⟩
noncomputable def PG:Fn:=⟨[0,1],11,[
 .a (.one 2) (.call (.k (.fn 41)) [(.i (.v 1) (.k (.int 1)))]),
 .a (.one 3) (.call (.k (.fn 74)) [(.v 0),(.v 2),(.i (.v 1) (.k (.int 3))),(.call (.k (.fn 58)) [(.call (.k (.fn 69)) [(.v 0),(.i (.v 1) (.k (.int 2)))])]),(.k (.int 0))]),
 .e (.call (.k (.fn 20)) [(.t (.v 3) 4),(.call (.k (.fn 57)) [(.v 2)])]),
 .e (.call (.k (.fn 17)) [(.t (.v 3) 4),(.t (.v 0) 29)]),
 .ret (some (.v 3))]⟩
noncomputable def PF:Fn:=⟨[0,1],5,[
 .ez (.c .Eq (.t (.call (.k (.fn 41)) [(.i (.v 1) (.k (.int 1)))]) 8) (.k (.str "array"))) [.ret (some (.call (.k (.fn 75)) [(.v 0),(.v 1)]))] [],
 .ret (some (.call (.k (.fn 78)) [(.v 0),(.v 1)]))]⟩
noncomputable def PE:Fn:=⟨[0,1],3,[
 .mv (.v 0) (.k (.int 0)) .Add (.k (.int 1)),
 .ret (some (.ite (.c .LtE (.i (.v 0) (.k (.int 0))) (.call (.k (.bi .len)) [(.i (.v 0) (.k (.int 1)))])) (.b .Mod (.i (.i (.v 0) (.k (.int 1))) (.b .Sub (.i (.v 0) (.k (.int 0))) (.k (.int 1)))) (.v 1)) (.k (.int 0))))]⟩
noncomputable def PD:Fn:=⟨[],9,[
 .a (.one 0) (.call (.k (.fn 37)) [(.k (.int 16))]),
 .a (.one 1) (.call (.k (.cls 30)) [(.v 0),(.tup [(.k (.str "range")),(.neg (.k (.int 2))),(.k (.int 6))])]),
 .a (.one 2) (.call (.k (.cls 30)) [(.v 0),(.tup [(.k (.str "range")),(.k (.int 0)),(.k (.int 20))])]),
 .a (.one 3) (.call (.k (.fn 34)) [(.call (.k (.fn 33)) [(.k (.str "line")),(.l [(.v 1)]),(.v 2),(.k (.bool false))]),(.k (.int 30))]),
 .a (.one 4) (.call (.k (.fn 34)) [(.call (.k (.fn 33)) [(.k (.str "grid")),(.l [(.v 1),(.call (.k (.cls 30)) [(.v 0),(.tup [(.k (.str "range")),(.k (.int 1)),(.k (.int 4))])])]),(.v 2),(.k (.bool false))]),(.k (.int 31))]),
 .ret (some (.tup [(.v 0),(.l [(.v 3),(.v 4)])]))]⟩
noncomputable def PC:Fn:=⟨[0,1,2,3],4,[
 .mv (.v 2) (.k (.int 0)) .Add (.k (.int 1)),
 .ret (some (.tup [(.k (.str "tell")),(.v 1),(.i (.v 2) (.k (.int 0))),(.v 3)]))]⟩
noncomputable def PB:Fn:=⟨[0,1,2],11,[
 .a (.one 3) (.l []),
 .ek (.one 4) (.inr (none,(.b .Add (.k (.int 1)) (.call (.k (.fn 83)) [(.v 0),(.k (.int 2))])))) [.a (.one 5) (.b .Sub (.call (.k (.fn 83)) [(.v 0),(.k (.int 9))]) (.k (.int 3))),.a (.one 6) (.b .Sub (.b .Add (.v 5) (.call (.k (.fn 83)) [(.v 0),(.k (.int 4))])) (.k (.int 1))),.a (.one 7) (.call (.k (.fn 85)) [(.v 0),(.v 1),(.v 2),(.v 5)]),.e (.fY (.v 3) 0 [(.tup [(.v 7),(.call (.k (.fn 85)) [(.v 0),(.v 1),(.v 2),(.v 6)])])])],
 .ret (some (.v 3))]⟩
noncomputable def PA:Fn:=⟨[0,1,2,3,4],13,[
 .a (.one 5) (.c .Eq (.call (.k (.fn 83)) [(.v 0),(.k (.int 2))]) (.k (.int 1))),
 .a (.one 6) (.l []),
 .ek (.one 7) (.inr (none,(.call (.k (.fn 83)) [(.v 0),(.k (.int 4))]))) [.a (.one 8) (.ite (.v 5) (.call (.k (.fn 86)) [(.v 0),(.v 1),(.v 2)]) (.k .none)),.e (.fY (.v 6) 0 [(.tup [(.v 8),(.call (.k (.fn 88)) [(.v 0),(.v 1),(.v 2),(.v 3),(.v 4)])])])],
 .ez (.c .Eq (.call (.k (.fn 83)) [(.v 0),(.k (.int 3))]) (.k (.int 1))) [.e (.fY (.v 6) 0 [(.tup [(.k (.str "others")),(.call (.k (.fn 88)) [(.v 0),(.v 1),(.v 2),(.v 3),(.v 4)])])])] [],
 .ret (some (.v 6))]⟩
noncomputable def JS:Fn:=⟨[0,1,2,3,4],9,[
 .ez (.c .Lt (.b .Add (.v 4) (.k (.int 1))) (.call (.k (.bi .len)) [(.t (.v 3) 16)])) [.ret (some (.tup [(.k (.str "row")),(.v 3),(.b .Add (.v 4) (.k (.int 1))),(.call (.k (.fn 87)) [(.v 0),(.v 1),(.v 2),(.v 3),(.b .Add (.v 4) (.k (.int 1)))])]))] [],
 .ret (some (.call (.k (.fn 85)) [(.v 0),(.v 1),(.v 2),(.b .FloorDiv (.b .Add (.call (.k (.fn 83)) [(.v 0),(.k (.int 46))]) (.k (.int 1))) (.k (.int 2)))]))]⟩
noncomputable def Dn:Fn:=⟨[0],5,[
 .a (.one 1) (.comp [none,none,none,none] (.v 3) [((.m [1,2]),(.inl (.v 0)),[]),((.one 3),(.inl (.v 1)),[])]),
 .a (.one 2) (.comp [none,none] (.v 1) [((.one 1),(.inl (.v 1)),[(.c .LtE (.i (.v 1) (.k (.int 0))) (.i (.v 1) (.k (.int 1))))])]),
 .ez (.c .Eq (.v 2) (.l [])) [.ret (some (.i (.v 1) (.k (.int 0))))] [],
 .ret (some (.tup [(.call (.k (.bi .min)) [(.comp [none,none] (.i (.v 1) (.k (.int 0))) [((.one 1),(.inl (.v 2)),[])])]),(.call (.k (.bi .max)) [(.comp [none,none] (.i (.v 1) (.k (.int 1))) [((.one 1),(.inl (.v 2)),[])])])]))]⟩
noncomputable def Pz:Fn:=⟨[0,1,2],6,[
 .ez (.p (.c .NotEq (.v 0) (.l [])) (.c .Eq (.i (.i (.v 0) (.neg (.k (.int 1)))) (.k (.int 0))) (.k (.str "others")))) [.ret (some (.v 1))] [],
 .ez (.p (.c .NotEq (.v 0) (.l [])) (.c .IsNot (.i (.i (.v 0) (.k (.int 0))) (.k (.int 0))) (.k .none))) [.ret (some (.call (.k (.fn 89)) [(.v 0)]))] [],
 .a (.one 3) (.ite (.c .Is (.v 1) (.k .none)) (.v 2) (.i (.v 1) (.k (.int 0)))),
 .ret (some (.tup [(.v 3),(.b .Sub (.b .Add (.v 3) (.call (.k (.bi .len)) [(.v 0)])) (.k (.int 1)))]))]⟩
noncomputable def Py:Fn:=⟨[0,1],14,[
 .a (.one 2) .emptyDict,
 .a (.one 3) (.k .none),
 .a (.one 4) (.i (.v 1) (.k (.int 0))),
 .ek (.m [5,6]) (.inl (.v 0)) [.ez (.c .Eq (.v 5) (.k (.str "others"))) [.a (.one 3) (.v 6),.cont] [],.a (.one 7) (.ite (.c .Is (.v 5) (.k .none)) (.l [(.v 4)]) (.l [])),.a (.one 4) (.b .Add (.v 4) (.k (.int 1))),.ek (.m [8,9]) (.inl (.ite (.c .Is (.v 5) (.k .none)) (.l []) (.v 5))) [.a (.one 7) (.b .Add (.v 7) (.pZ (.v 8) (.b .Add (.v 9) (.k (.int 1)))))],.ek (.one 10) (.inl (.v 7)) [.ez (.q (.c .In (.v 10) (.v 2)) (.not (.ut (.i (.v 1) (.k (.int 0))) .LtE (.v 10) .LtE (.i (.v 1) (.k (.int 1)))))) [.ret (some (.k .none))] [],.dc (.v 2) (.v 10) (.v 6)]],
 .a (.one 11) (.comp [none,none,some 2,some 3] (.fY (.v 2) 2 [(.v 1),(.v 3)]) [((.one 1),(.inr ((some (.i (.v 1) (.k (.int 0)))),(.b .Add (.i (.v 1) (.k (.int 1))) (.k (.int 1))))),[])]),
 .ret (some (.ite (.c .In (.k .none) (.v 11)) (.k .none) (.v 11)))]⟩
noncomputable def Px:Fn:=⟨[0,1,2,3,4],24,[
 .a (.one 5) (.l []),
 .ek (.m [6,7]) (.inl (.v 0)) [.a (.one 8) (.v 6),.ez (.p (.c .IsNot (.v 6) (.k .none)) (.c .NotEq (.v 6) (.k (.str "others")))) [.a (.one 8) (.l []),.ek (.m [9,10]) (.inl (.v 6)) [.e (.fY (.v 4) 1 [(.l [(.i (.v 9) (.k (.int 2))),(.i (.v 10) (.k (.int 2)))])]),.e (.fY (.v 8) 0 [(.tup [(.i (.v 9) (.k (.int 3))),(.i (.v 10) (.k (.int 3)))])])]] [],.e (.fY (.v 5) 0 [(.tup [(.v 8),(.call (.k (.bi .len)) [(.v 5)])])])],
 .a (.one 11) (.call (.k (.fn 90)) [(.v 5),(.ite (.c .Is (.v 1) (.k .none)) (.k .none) (.i (.v 1) (.v 2))),(.i (.v 3) (.v 2))]),
 .ez (.c .Is (.v 11) (.k .none)) [.ret (some (.k (.str "constraint_error")))] [],
 .ez (.c .Gt (.b .Add (.b .Sub (.i (.v 11) (.k (.int 1))) (.i (.v 11) (.k (.int 0)))) (.k (.int 1))) (.k (.int 24))) [.ret (some (.k (.str "storage_error")))] [],
 .a (.one 12) (.call (.k (.fn 91)) [(.v 5),(.v 11)]),
 .ez (.c .Is (.v 12) (.k .none)) [.ret (some (.k (.str "constraint_error")))] [],
 .a (.one 13) (.b .Mult (.l [(.k .none)]) (.call (.k (.bi .len)) [(.v 12)])),
 .ek (.one 14) (.inr (none,(.call (.k (.bi .len)) [(.v 0)]))) [.ek (.one 15) (.inr (none,(.call (.k (.bi .len)) [(.v 12)]))) [.ez (.c .Eq (.i (.v 12) (.v 15)) (.v 14)) [.dc (.v 13) (.v 15) (.call (.k (.fn 93)) [(.i (.i (.v 0) (.v 14)) (.k (.int 1))),(.v 1),(.v 2),(.v 3),(.v 4)]),.ez (.call (.k (.bi .isinstance)) [(.i (.v 13) (.v 15)),(.k (.bi .nF))]) [.ret (some (.i (.v 13) (.v 15)))] []] []]],
 .ez (.c .Eq (.b .Add (.v 2) (.k (.int 1))) (.call (.k (.bi .len)) [(.v 3)])) [.ret (some (.tup [(.l [(.v 11)]),(.v 13)]))] [],
 .a (.one 16) (.ite (.c .NotEq (.v 13) (.l [])) (.i (.i (.v 13) (.k (.int 0))) (.k (.int 0))) (.ite (.c .Is (.v 1) (.k .none)) (.l [(.tup [(.k (.int 1)),(.k (.int 0))])]) (.l [(.i (.v 1) (.b .Add (.v 2) (.k (.int 1))))]))),
 .ez (.c .NotEq (.comp [none,none,some 16] (.v 1) [((.one 1),(.inl (.v 13)),[(.c .NotEq (.i (.v 1) (.k (.int 0))) (.v 2))])]) (.l [])) [.ret (some (.k (.str "constraint_error")))] [],
 .ret (some (.tup [(.b .Add (.l [(.v 11)]) (.v 16)),(.comp [none,none,none] (.v 2) [((.one 1),(.inl (.v 13)),[]),((.one 2),(.inl (.i (.v 1) (.k (.int 1)))),[])])]))]⟩
noncomputable def JR:Fn:=⟨[0,1,2,3,4],7,[
 .ez (.c .Lt (.b .Add (.v 2) (.k (.int 1))) (.call (.k (.bi .len)) [(.v 3)])) [.ret (some (.call (.k (.fn 92)) [(.i (.v 0) (.k (.int 3))),(.v 1),(.b .Add (.v 2) (.k (.int 1))),(.v 3),(.v 4)]))] [],
 .e (.fY (.v 4) 0 [(.i (.v 0) (.k (.int 2)))]),
 .ret (some (.ite (.c .LtE (.i (.v 0) (.k (.int 3))) (.k (.int 20))) (.i (.v 0) (.k (.int 3))) (.k (.str "constraint_error"))))]⟩
noncomputable def Ay:Fn:=⟨[0,1,2,3,4],14,[
 .a (.one 5) (.call (.k (.fn 92)) [(.v 0),(.v 1),(.k (.int 0)),(.v 2),(.v 4)]),
 .ez (.call (.k (.bi .isinstance)) [(.v 5),(.k (.bi .nF))]) [.ret (some (.v 5))] [],
 .ek (.one 6) (.inr (none,(.call (.k (.bi .len)) [(.v 2)]))) [.a (.m [7,8]) (.i (.i (.v 5) (.k (.int 0))) (.v 6)),.ez (.p (.c .LtE (.v 7) (.v 8)) (.q (.c .Lt (.v 7) (.i (.v 2) (.v 6))) (.c .Gt (.v 8) (.i (.v 3) (.v 6))))) [.ret (some (.k (.str "constraint_error")))] []],
 .ret (some (.ite (.c .LtE (.call (.k (.bi .len)) [(.i (.v 5) (.k (.int 1)))]) (.k (.int 24))) (.v 5) (.k (.str "storage_error"))))]⟩
noncomputable def qt:Fn:=⟨[0,1,2],3,[
 .e (.fY (.v 2) 0 [(.i (.v 1) (.k (.int 2)))]),
 .ret (some (.i (.v 1) (.k (.int 3))))]⟩
noncomputable def Zo:Fn:=⟨[0],1,[
 .aC (.v 0) 59 (.k (.int 0))]⟩
noncomputable def Zn:Fn:=⟨[0,1,2],3,[
 .aC (.v 0) 4 (.v 1),
 .aC (.v 0) 5 (.v 2)]⟩
noncomputable def Qp:Fn:=⟨[0,1,2],3,[
 .aC (.v 0) 8 (.v 1),
 .aC (.v 0) 1 (.v 2),
 .aC (.v 0) 9 (.k (.int 0)),
 .aC (.v 0) 10 (.k .none),
 .aC (.v 0) 11 (.k .none),
 .aC (.v 0) 12 (.k .none),
 .aC (.v 0) 13 (.l []),
 .aC (.v 0) 14 (.k (.int 0)),
 .aC (.v 0) 15 (.tup [(.k (.int 1)),(.k (.int 1))]),
 .aC (.v 0) 16 (.l []),
 .aC (.v 0) 17 (.k .none),
 .aC (.v 0) 18 (.k (.bool true)),
 .aC (.v 0) 19 (.l []),
 .aC (.v 0) 20 (.l []),
 .aC (.v 0) 21 (.k .none),
 .aC (.v 0) 22 (.k .none),
 .aC (.v 0) 23 (.k (.bool false)),
 .aC (.v 0) 24 (.k .none),
 .aC (.v 0) 25 (.k (.bool false)),
 .aC (.v 0) 26 (.k (.bool false)),
 .aC (.v 0) 27 .emptyDict]⟩
noncomputable def Qo:Fn:=⟨[0,1,2],3,[
 .aC (.v 0) 6 (.v 1),
 .aC (.v 0) 7 (.v 2)]⟩
noncomputable def Qn:Fn:=⟨[0,1,2],4,[
 .aC (.v 0) 28 (.v 1),
 .aC (.v 0) 29 (.v 2),
 .aC (.v 0) 30 .emptyDict,
 .aC (.v 0) 31 .emptyDict,
 .aC (.v 0) 32 .emptyDict,
 .aC (.v 0) 33 (.call (.k (.cls 7)) []),
 .aC (.v 0) 34 (.k .none),
 .aC (.v 0) 35 (.k (.int 0)),
 .aC (.v 0) 3 (.k (.int 0)),
 .aC (.v 0) 36 (.k .none),
 .aC (.v 0) 37 (.l []),
 .aC (.v 0) 38 .emptyDict,
 .aC (.v 0) 39 .emptyDict,
 .aC (.v 0) 40 .emptyDict,
 .aC (.v 0) 41 .emptyDict,
 .aC (.v 0) 42 (.k .none),
 .aC (.v 0) 43 (.k .none),
 .aC (.v 0) 44 (.k .none),
 .aC (.v 0) 45 (.k .none),
 .aC (.v 0) 46 (.k .none),
 .aC (.v 0) 47 (.k .none),
 .aC (.v 0) 48 (.k .none),
 .aC (.v 0) 49 (.k .none),
 .aC (.v 0) 50 (.k .none),
 .aC (.v 0) 51 (.k .none),
 .aC (.v 0) 52 (.k .none),
 .aC (.v 0) 53 (.k .none),
 .aC (.v 0) 54 .emptyDict]⟩
noncomputable def Qm:Fn:=⟨[0,1,2,3,4,5,6],7,[
 .aC (.v 0) 55 (.v 1),
 .aC (.v 0) 35 (.v 2),
 .aC (.v 0) 56 (.v 3),
 .aC (.v 0) 57 (.v 4),
 .aC (.v 0) 0 (.v 5),
 .aC (.v 0) 58 (.v 6)]⟩
noncomputable def R0:List (Nat×Fn):=[(15,P9),(16,P8),(17,P7),(20,P6),(21,P5),(22,P4),(23,P2),(24,P1),(25,P0),(26,PZ),(31,PY),(32,PX),(33,PW),(34,PV),(35,PU),(36,WA),(37,PS),(40,PR),(41,PQ),(50,PP),(51,PO),(52,JV),(53,PN),(54,PM),(57,PL),(58,PK),(60,PJ),(62,PI),(68,JU),(69,JT),(71,Gk),(72,Wz),(73,PH),(74,Wy),(75,PG),(79,PF),(83,PE),(84,PD),(85,PC),(86,PB),(87,PA),(88,JS),(89,Dn),(90,Pz),(91,Py),(92,Px),(93,JR),(94,Ay),(1000,qt)]
noncomputable def FF(k:Nat):Option Fn:=R0.lookup k
noncomputable def Qs:List (Nat×Fn):=[(7,Zo),(8,Zn),(29,Qp),(30,Qo),(64,Qn),(81,Qm)]
noncomputable def CC(k:Nat):Option Fn:=Qs.lookup k
section
variable{α β:Type}{Q Q':α->St->Prop}{E E':Str->St->Prop}{s s':St}{m:M α}
theorem bJ{a:α}(h:m s=.ok a s'):wp m Q E s=Q a s':=by unfold wp;rw[gI,h]
theorem rO{d:M α}{s:St}(h:m s=d s):wp m Q E s=wp d Q E s:=by unfold wp;exact aU h rfl
end
noncomputable abbrev SS(n:Nat):I:=KN FF CC n
noncomputable def px(n:Nat)(d:List S)(ρ:Env)(Q:Flow×Env->St->Prop)(E:Str->St->Prop)(s:St):Prop:=A7 (pw (execs (SS n) d ρ) Q E s)
noncomputable def pc(n:Nat)(f:V)(d:List V)(Q:V->St->Prop)(E:Str->St->Prop)(s:St):Prop:=A7 (pw (nj (SS n) FF CC f d) Q E s)
noncomputable def Em(n:Nat)(r:List S)(Q:Flow×Env->St->Prop)(E:Str->St->Prop):Flow×Env->St->Prop:=λ x s=>match x.1 with
 | .next=>px n r x.2 Q E s
 |_=>Q x s
theorem pH{n:Nat}{r:List S}{ρ:Env}{Q:Flow×Env->St->Prop}{E:Str->St->Prop}{s:St}:px n r ρ Q E s=pw (execs (SS n) r ρ) Q E s:=gI _
theorem pJ{n:Nat}{f:V}{d:List V}{Q:V->St->Prop}{E:Str->St->Prop}{s:St}:pc n f d Q E s=pw (nj (SS n) FF CC f d) Q E s:=gI _
theorem Kq{n:Nat}{r:List S}{Q:Flow×Env->St->Prop}{E:Str->St->Prop}:Kr (execs (SS n) r) Q E=Em n r Q E:=by
 funext x s
 obtain ⟨f,ρ⟩:=x
 cases f
 ·exact pH.symm
 ·rfl
 ·rfl
section
variable{n:Nat}{ρ:Env}{Q:V->St->Prop}{E:Str->St->Prop}{s:St}{a b c:Mine.E}{x y:V}
noncomputable def I0(o:Option V)(Q:V->St->Prop)(s:St):Prop:=match o with|some v=>Q v s|none=>False
theorem af{i:Nat}:pw ((SS (n+1)).ev ρ (.v i)) Q E s=I0 ((ρ[i]?).getD none) Q s:=rfl
theorem aj{v:V}:I0 (some v) Q s=Q v s:=rfl
theorem ag{v:V}:pw ((SS (n+1)).ev ρ (.k v)) Q E s=Q v s:=rfl
theorem bG{d:Operator}:pw ((SS (n+1)).ev ρ (.b d a b)) Q E s=pw ((SS n).ev ρ a) (kA (SS n) ρ b (jo d) Q E) E s:=rfl
theorem nV:pw ((SS (n+1)).ev ρ (.neg a)) Q E s=pw ((SS n).ev ρ a) (kU zX Q E) E s:=rfl
theorem qw:pw ((SS (n+1)).ev ρ (.not a)) Q E s=pw ((SS n).ev ρ a) (Ag Q) E s:=rfl
theorem dU:pw ((SS (n+1)).ev ρ (.p a b)) Q E s=pw ((SS n).ev ρ a) (mc (kE (SS n) ρ b (kj Q) E) (kQ Q (.bool false))) E s:=rfl
theorem eD:pw ((SS (n+1)).ev ρ (.q a b)) Q E s=pw ((SS n).ev ρ a) (mc (kQ Q (.bool true)) (kE (SS n) ρ b (kj Q) E)) E s:=rfl
theorem aI{d:CmpOp}:pw ((SS (n+1)).ev ρ (.c d a b)) Q E s=pw ((SS n).ev ρ a) (kA (SS n) ρ b (bz d) Q E) E s:=rfl
theorem ug{d o2:CmpOp}:pw ((SS (n+1)).ev ρ (.ut a d b o2 c)) Q E s=pw ((SS n).ev ρ a) (yV (SS n) d ρ b o2 c Q E) E s:=rfl
theorem dB:pw ((SS (n+1)).ev ρ (.ite c a b)) Q E s=pw ((SS n).ev ρ c) (mc (kE (SS n) ρ a Q E) (kE (SS n) ρ b Q E)) E s:=rfl
theorem bX{d:List Mine.E}:pw ((SS (n+1)).ev ρ (.tup d)) Q E s=pw (v8 (SS n) ρ d) (ro Q) E s:=rfl
theorem bx{d:List Mine.E}:pw ((SS (n+1)).ev ρ (.l d)) Q E s=pw (v8 (SS n) ρ d) (FL Q E) E s:=rfl
theorem dh:pw ((SS (n+1)).ev ρ .emptyDict) Q E s=wp (cY (.dM [])) Q E s:=rfl
theorem DA{z:Str}:pw ((SS (n+1)).ev ρ (.fS z a)) Q E s=pw ((SS n).ev ρ a) (yT z Q E) E s:=rfl
theorem aV:pw ((SS (n+1)).ev ρ (.i a b)) Q E s=pw ((SS n).ev ρ a) (kA (SS n) ρ b cK Q E) E s:=rfl
theorem Dz:pw ((SS (n+1)).ev ρ (.sl a (some b) none)) Q E s=pw ((SS n).ev ρ a) (kA (SS n) ρ b uY Q E) E s:=rfl
theorem Dy:pw ((SS (n+1)).ev ρ (.sl a none (some b))) Q E s=pw ((SS n).ev ρ a) (kA (SS n) ρ b uZ Q E) E s:=rfl
theorem bF{j:Nat}:pw ((SS (n+1)).ev ρ (.t a j)) Q E s=pw ((SS n).ev ρ a) (kU (zE j) Q E) E s:=rfl
theorem ax{d:List Mine.E}:pw ((SS (n+1)).ev ρ (.call a d)) Q E s=pw ((SS n).ev ρ a) (FN (SS n) FF CC ρ d Q E) E s:=rfl
theorem DC{k:Nat}{p q:List V}:pw ((SS (n+1)).ev ρ (.sN k p a q)) Q E s=pw ((SS n).ev ρ a) (Ru (SS n) FF CC k p q Q E) E s:=rfl
theorem eV{j:Nat}{d:List Mine.E}:pw ((SS (n+1)).ev ρ (.fY a j d)) Q E s=pw ((SS n).ev ρ a) (tQ (SS n) ρ j d Q E) E s:=rfl
theorem DB:pw ((SS (n+1)).ev ρ (.pZ a b)) Q E s=pw ((SS n).ev ρ a) (kA (SS n) ρ b gb (Af Q E) E) E s:=rfl
theorem fJ{g:List (Option Nat)}{t:T}{f:o6}{d:List Mine.E}{gs:List (T×o6×List Mine.E)}:pw ((SS (n+1)).ev ρ (.comp g a ((t,f,d)::gs))) Q E s=pw (rk (SS n) ρ f) (vH (SS n) a gs t d (lS ρ g) Q E) E s:=rfl
theorem ai{Q:List V->St->Prop}:pw (v8 (SS n) ρ []) Q E s=Q [] s:=rfl
theorem ah{Q:List V->St->Prop}{r:List Mine.E}:pw (v8 (SS n) ρ (a::r)) Q E s=pw ((SS n).ev ρ a) (FO (v8 (SS n) ρ r) Q E) E s:=rfl
theorem bU{α:Type}{f:V->V->M α}{Q:α->St->Prop}:kA (SS n) ρ b f Q E x s=pw ((SS n).ev ρ b) (kB f x Q E) E s:=rfl
theorem cz{d:Operator}:kB (jo d) x Q E y s=wp (jo d x y) Q E s:=rfl
theorem aS{d:CmpOp}:kB (bz d) x Q E y s=wp (bz d x y) Q E s:=rfl
theorem bp:kB cK x Q E y s=wp (cK x y) Q E s:=rfl
theorem Cw:kB uY x Q E y s=wp (uY x y) Q E s:=rfl
theorem Cy:kB uZ x Q E y s=wp (uZ x y) Q E s:=rfl
theorem gf{Q:Int×Int->St->Prop}:kB gb x Q E y s=wp (gb x y) Q E s:=rfl
theorem su:kU zX Q E x s=wp (zX x) Q E s:=rfl
theorem ci{j:Nat}:kU (zE j) Q E x s=wp (cM x j) Q E s:=rfl
theorem k_not{b:Bool}:Ag Q (.bool b) s=Q (.bool (!b)) s:=rfl
theorem cW{b:Bool}:kj Q (.bool b) s=Q (.bool b) s:=rfl
theorem aQ{Q R:St->Prop}:mc Q R (.bool true) s=Q s:=gI _
theorem aJ{Q R:St->Prop}:mc Q R (.bool false) s=R s:=gI _
theorem tI{v:V}:kQ Q v s=Q v s:=rfl
theorem gy:kE (SS n) ρ a Q E s=pw ((SS n).ev ρ a) Q E s:=rfl
theorem xt{d o2:CmpOp}:yV (SS n) d ρ b o2 c Q E x s=pw ((SS n).ev ρ b) (FQ (SS n) d x ρ o2 c Q E) E s:=rfl
theorem CA{d o2:CmpOp}:FQ (SS n) d x ρ o2 c Q E y s=wp (bz d x y) (mc (kE (SS n) ρ c (kB (bz o2) y Q E) E) (kQ Q (.bool false))) E s:=rfl
theorem yH{d:List V}(h:hU d=true):ro Q d s=Q (.tup d) s:=by unfold ro;exact aU h rfl
theorem U1{a:V}:ro Q [a] s=Q (.tup [a]) s:=yH rfl
theorem cJ{a b:V}:ro Q [a,b] s=Q (.tup [a,b]) s:=yH rfl
theorem xq{a b c:V}:ro Q [a,b,c] s=Q (.tup [a,b,c]) s:=yH rfl
theorem xp{a b c d:V}:ro Q [a,b,c,d] s=Q (.tup [a,b,c,d]) s:=yH rfl
theorem b8{d:List V}:FL Q E d s=wp (lZ d) Q E s:=rfl
theorem IZ{z:Str}:yT z Q E x s=wp (cY (.fS [(z,x)])) Q E s:=rfl
theorem ao{Q:List V->St->Prop}{d:List V}:yU x Q d s=Q (x::d) s:=rfl
theorem aA{Q:List V->St->Prop}{k:PT (List V)}:FO k Q E x s=pw k (yU x Q) E s:=rfl
theorem Nz{r:Int×Int}:Af Q E r s=wp (lZ ((di r.1 r.2).map .int)) Q E s:=rfl
theorem m3{r:List V×Env}:tO Q E r s=wp (lZ r.1) Q E s:=rfl
theorem aL{d:List Mine.E}:FN (SS n) FF CC ρ d Q E x s=pw (v8 (SS n) ρ d) (yX (SS n) FF CC x Q E) E s:=rfl
theorem aB{d:List V}:yX (SS n) FF CC x Q E d s=pc n x d Q E s:=by exact aU pJ (gI _)
theorem U3{k:Nat}{p q:List V}:Ru (SS n) FF CC k p q Q E x s=pc n (.cls k) (p++x::q) Q E s:=by exact aU pJ (gI _)
theorem eU{j:Nat}{d:List Mine.E}:tQ (SS n) ρ j d Q E x s=wp (ge x j) (tP (SS n) x ρ j d Q E) E s:=rfl
theorem eT{j:Nat}{d:List Mine.E}{u:Unit}:tP (SS n) x ρ j d Q E u s=pw (v8 (SS n) ρ d) (yO x j Q E) E s:=rfl
theorem gh{j:Nat}{d:List V}:yO x j Q E d s=wp (m0 x j d) Q E s:=rfl
theorem iH{gs:List (T×o6×List Mine.E)}{t:T}{d:List Mine.E}{z:Nat⊕List Int}:vH (SS n) a gs t d ρ Q E z s=pw (sf (iq (SS n) (gq (SS n) a gs) t d z ρ)) (tO Q E) E s:=rfl
end
section
variable{n:Nat}{ρ:Env}{Q:Flow×Env->St->Prop}{E:Str->St->Prop}{s:St}{a i e:Mine.E}{x y v:V}
theorem aa{r:List S}:Em n r Q E (.next,ρ) s=px n r ρ Q E s:=rfl
theorem aF{r:List S}:Em n r Q E (.ret v,ρ) s=Q (.ret v,ρ) s:=rfl
theorem zQ{r:List S}:Em n r Q E (.cont,ρ) s=Q (.cont,ρ) s:=rfl
theorem aM:px n [] ρ Q E s=Q (.next,ρ) s:=by exact aU pH rfl
theorem ae{st:S}{r:List S}:px n (st::r) ρ Q E s=pw ((SS n).ex ρ st) (Em n r Q E) E s:=by exact aU pH (fM Kq rfl)
theorem az{i:Nat}:pw ((SS (n+1)).ex ρ (.a (.one i) e)) Q E s=pw ((SS n).ev ρ e) (tM ρ i Q) E s:=rfl
theorem aX{i:Nat}:tM ρ i Q v s=Q (.next,ρ.set i (some v)) s:=rfl
theorem iE{d:List Nat}:pw ((SS (n+1)).ex ρ (.a (.m d) e)) Q E s=pw ((SS n).ev ρ e) (yP ρ d Q E) E s:=rfl
theorem qd{d:List Nat}:yP ρ d Q E v s=wp (lb d v ρ) (FP Q) E s:=rfl
theorem vE:FP Q ρ s=Q (.next,ρ) s:=rfl
theorem bY{Q:Env->St->Prop}{i j:Nat}{u v:V}:wp (lb [i,j] (.tup [u,v]) ρ) Q E s=Q ((ρ.set i (some u)).set j (some v)) s:=bJ rfl
theorem fp:pw ((SS (n+1)).ex ρ (.dc a i e)) Q E s=pw ((SS n).ev ρ e) (tK (SS n) ρ a i Q E) E s:=rfl
theorem lu:tK (SS n) ρ a i Q E v s=pw ((SS n).ev ρ a) (tJ (SS n) v ρ i Q E) E s:=rfl
theorem ls:tJ (SS n) v ρ i Q E x s=pw ((SS n).ev ρ i) (yM x v ρ Q E) E s:=rfl
theorem nO:yM x v ρ Q E y s=wp (ik x y v) (ja ρ Q) E s:=rfl
theorem aP{α:Type}{u:α}:ja ρ Q u s=Q (.next,ρ) s:=rfl
theorem au{j:Nat}:pw ((SS (n+1)).ex ρ (.aC a j e)) Q E s=pw ((SS n).ev ρ e) (tL (SS n) ρ a j Q E) E s:=rfl
theorem aR{j:Nat}:tL (SS n) ρ a j Q E v s=pw ((SS n).ev ρ a) (yN j v ρ Q E) E s:=rfl
theorem aY{j:Nat}:yN j v ρ Q E x s=wp (gY x j v) (ja ρ Q) E s:=rfl
theorem w7{i:Nat}{d:Operator}:pw ((SS (n+1)).ex ρ (.lz i d e)) Q E s=wp (sb ((ρ[i]?).getD none)) (tS (SS n) ρ d e (tM ρ i Q) E) E s:=rfl
theorem sU{α:Type}{Q:α->St->Prop}{a:α}:wp (sb (some a)) Q E s=Q a s:=bJ rfl
theorem CE{d:Operator}{z:Int}{Q:V->St->Prop}:tS (SS n) ρ d e Q E (.int z) s=pw ((SS n).ev ρ e) (kB (jo d) (.int z) Q E) E s:=rfl
theorem rR{d:Operator}:pw ((SS (n+1)).ex ρ (.mv a i d e)) Q E s=pw ((SS n).ev ρ a) (tR (SS n) ρ i d e Q E) E s:=rfl
theorem yJ{d:Operator}:tR (SS n) ρ i d e Q E x s=pw ((SS n).ev ρ i) (yW (SS n) x ρ d e Q E) E s:=rfl
theorem CD{d:Operator}:yW (SS n) x ρ d e Q E y s=wp (cK x y) (tS (SS n) ρ d e (qe x y ρ Q E) E) E s:=rfl
theorem CB:qe x y ρ Q E v s=wp (ik x y v) (ja ρ Q) E s:=rfl
theorem cb:pw ((SS (n+1)).ex ρ (.e e)) Q E s=pw ((SS n).ev ρ e) (ja ρ Q) E s:=rfl
theorem bv{t f:List S}:pw ((SS (n+1)).ex ρ (.ez e t f)) Q E s=pw ((SS n).ev ρ e) (mc (kX (SS n) t ρ Q E) (kX (SS n) f ρ Q E)) E s:=rfl
theorem c7{b:List S}:kX (SS n) b ρ Q E s=px n b ρ Q E s:=by exact aU pH (gI _)
theorem aT:pw ((SS (n+1)).ex ρ (.ret (some e))) Q E s=pw ((SS n).ev ρ e) (FK ρ Q) E s:=rfl
theorem br:FK ρ Q v s=Q (.ret v,ρ) s:=rfl
theorem E0:pw ((SS (n+1)).ex ρ .cont) Q E s=Q (.cont,ρ) s:=rfl
theorem pB{w:Str}:pw ((SS (n+1)).ex ρ (.raise w e)) Q E s=pw ((SS n).ev ρ e) (tN w E) E s:=rfl
theorem tH{w:Str}:tN w E v s=E w s:=rfl
theorem Bv:pw ((SS (n+1)).ex ρ (.nA e)) Q E s=pw ((SS n).ev ρ e) (mc (λ _=>False) (λ s=>Q (.next,ρ) s)) E s:=rfl
theorem be{K:Env->St->Prop}:gC Q K (.next,ρ) s=K ρ s:=rfl
theorem AK{K:Env->St->Prop}:gC Q K (.cont,ρ) s=K ρ s:=rfl
theorem hV{K:Env->St->Prop}:gC Q K (.ret v,ρ) s=Q (.ret v,ρ) s:=rfl
theorem eQ{t:T}{b:List S}(h:pw ((SS n).ev ρ e) (yR (SS n) t b ρ Q E) E s):pw ((SS (n+1)).ex ρ (.ek t (.inl e) b)) Q E s:=h
theorem gL{t:T}{b:List S}{v:V}:yR (SS n) t b ρ Q E v s=∃a d,v=.ref a/\s[a]?= some (.list d)/\pw (ue (SS n) t b a (d.length+1) 0 ρ) Q E s:=rfl
theorem f0{t:T}{lo:Option Mine.E}{d:Mine.E}{b:List S}(h:pw (jg (SS n) ρ lo d) (yS (SS n) t b ρ Q E) E s):pw ((SS (n+1)).ex ρ (.ek t (.inr (lo,d)) b)) Q E s:=h
theorem iG{t:T}{b:List S}{r:Int×Int}:yS (SS n) t b ρ Q E r s=pw (rA (SS n) t b (di r.1 r.2) ρ) Q E s:=rfl
theorem cQ{b:List S}:jy (SS n) b Q E ρ s=px n b ρ Q E s:=by exact aU pH (gI _)
theorem dJ{d:Mine.E}{Q:Int×Int->St->Prop}:pw (jg (SS n) ρ none d) Q E s=pw ((SS n).ev ρ d) (kB gb (.int 0) Q E) E s:=rfl
theorem pE{lo d:Mine.E}{Q:Int×Int->St->Prop}:pw (jg (SS n) ρ (some lo) d) Q E s=pw ((SS n).ev ρ lo) (kA (SS n) ρ d gb Q E) E s:=rfl
theorem cP{x y:Int}{Q:Int×Int->St->Prop}(hx:iZ x=true)(d:iZ y=true):wp (gb (.int x) (.int y)) Q E s=Q (x,y) s:=bJ (by show gB (iZ x&&iZ y) (iS (x,y)) s=_;erw[hx,d];rfl)
end
noncomputable def QT{α:Type}(m:PT α):Prop:=∀ {Q Q':α->St->Prop} {E E':Str->St->Prop} {s:St},pw m Q E s->(∀a s',Q a s'->Q' a s')->(∀w s',E w s'->E' w s')->pw m Q' E' s
theorem wp_mono{α:Type}{m:M α}{Q Q':α->St->Prop}{E E':Str->St->Prop}{s:St}(h:wp m Q E s)(d:∀a s',Q a s'->Q' a s')(f:∀w s',E w s'->E' w s'):wp m Q' E' s:=by
 unfold wp at h ⊢;rw[gI]at h ⊢;generalize z:m s=g;induction g with
 |ok a s'=>rw[z]at h;exact d _ _ h
 |exc w s'=>rw[z]at h;exact f _ _ h
 |bad=>rw[z]at h;exact h
structure OA{α:Type}(Φ:(α->St->Prop)->(Str->St->Prop)->Prop):Prop where
 el:∀ {Q:α->St->Prop} {E:Str->St->Prop} {G:Prop},Φ Q E->(∀a s',Q a s'->(∀Q' E',Q' a s'->Φ Q' E')->G)->(∀w s',E w s'->(∀Q' E',E' w s'->Φ Q' E')->G)->G
noncomputable def lB{α:Type}(m:PT α):Prop:=∀s,OA λ Q E=>pw m Q E s
section
variable{α β:Type}{s:St}
theorem lB.mono{m:PT α}(o:lB m):QT m:=fun{_ Q' _ E' s} h q x=>(o s).el h (λ a s' k r=>r Q' E' (q a s' k)) λ w s' k r=>r Q' E' (x w s' k)
theorem OA.pt{m:PT α}(o:lB m)(K:(β->St->Prop)->(Str->St->Prop)->α->St->Prop)(k:∀a s,OA λ Q E=>K Q E a s):OA λ Q E=>pw m (K Q E) E s:=⟨λ h q x=>(o s).el h (λ a s' z r=>(k a s').el z (λ b f g d=>q b f g λ Q' E' c=>r (K Q' E') E' (d Q' E' c)) λ w f e d=>x w f e λ Q' E' c=>r (K Q' E') E' (d Q' E' c)) λ w s' e r=>x w s' e λ Q' E' c=>r (K Q' E') E' c⟩
theorem OA.wp{m:M α}(K:(β->St->Prop)->(Str->St->Prop)->α->St->Prop)(k:∀a s,OA λ Q E=>K Q E a s):OA λ Q E=>Mine.wp m (K Q E) E s:=by
 refine⟨fun{Q E G} h q x=>?_⟩;unfold Mine.wp at h q x;have h:=lq h;generalize z:m s=g;induction g with
 |ok a s'=>rw[z]at h q x;exact(k a s').el h (λ b d f r=>q b d f λ Q' E' c=>pO (r Q' E' c)) λ w d e r=>x w d e λ Q' E' c=>pO (r Q' E' c)
 |exc w s'=>rw[z]at h x;exact x w s' h λ Q' E' c=>pO c
 |bad=>rw[z]at h;exact h.elim
theorem OA.ret{a:α}:OA λ Q _=>Q a s:=⟨λ h q _=>q _ _ h λ _ _ c=>c⟩
theorem OA.exc{w:Str}:OA (α:=α) λ _ E=>E w s:=⟨λ h _ x=>x _ _ h λ _ _ c=>c⟩
theorem OA.no:OA (α:=α) λ _ _=>False:=⟨λ h _ _=>h.elim⟩
theorem OA.yl{m:M α}:OA λ Q E=>Mine.wp m Q E s:=.wp (λ Q _=>Q) λ _ _=>.ret
theorem OA.ptR{m:PT α}(o:lB m):OA λ Q E=>pw m Q E s:=o s
theorem OA.lq{d:(α->St->Prop)->(Str->St->Prop)->Prop}(o:OA d):OA λ Q E=>A7 (d Q E):=⟨λ h q x=>o.el (Mine.lq h) (λ a s' k r=>q a s' k λ Q' E' c=>pO (r Q' E' c)) λ w s' k r=>x w s' k λ Q' E' c=>pO (r Q' E' c)⟩
theorem OA.if{A B:(α->St->Prop)->(Str->St->Prop)->St->Prop}{v:V}(a:OA λ Q E=>A Q E s)(b:OA λ Q E=>B Q E s):OA λ Q E=>mc (A Q E) (B Q E) v s:=
 .lq (match v with| .bool true=>a| .bool false=>b| .none=>.no| .int _=>.no| .str _=>.no| .tup _=>.no| .ref _=>.no| .fn _=>.no| .cls _=>.no| .bi _=>.no| .ke _=>.no)
theorem OA.ex{d:Type}{p:d->Prop}{f:d->(α->St->Prop)->(Str->St->Prop)->Prop}(o:∀c,OA (f c)):OA λ Q E=>∃c,p c/\f c Q E:=⟨λ h q x=>h.elim λ c h=>(o c).el h.2 (λ a s' k r=>q a s' k λ Q' E' z=>(aw c h.1 (r Q' E' z))) λ w s' k r=>x w s' k λ Q' E' z=>(aw c h.1 (r Q' E' z))⟩
theorem OA.R5{f:Type}{d:f->(α->St->Prop)->(Str->St->Prop)->Prop}(o:∀c,OA (d c)):OA λ Q E=>∃c,d c Q E:=⟨λ h q x=>h.elim λ c h=>(o c).el h (λ a s' k r=>q a s' k λ Q' E' z=>⟨c,r Q' E' z⟩) λ w s' k r=>x w s' k λ Q' E' z=>⟨c,r Q' E' z⟩⟩
theorem OA.and{p:Prop}{d:(α->St->Prop)->(Str->St->Prop)->Prop}(o:OA d):OA λ Q E=>p/\d Q E:=⟨λ h q x=>o.el h.2 (λ a s' k r=>q a s' k λ Q' E' z=>⟨h.1,r Q' E' z⟩) λ w s' k r=>x w s' k λ Q' E' z=>⟨h.1,r Q' E' z⟩⟩
theorem OA.bool{v:V}:OA λ Q _=>kj Q v s:=match v with| .bool _=>.ret| .none=>.no| .int _=>.no| .str _=>.no| .tup _=>.no| .ref _=>.no| .fn _=>.no| .cls _=>.no| .bi _=>.no| .ke _=>.no
theorem OA.tup{d:List V}:OA λ Q _=>ro Q d s:=by
 show OA fun(Q:V->St->Prop) _=>(match hU d with|true=>Q (V.tup d) s|false=>False)
 cases hU d
 ·exact .no
 ·exact .ret
theorem OA.not{v:V}:OA λ Q _=>Ag Q v s:=match v with| .bool _=>.ret| .none=>.no| .int _=>.no| .str _=>.no| .tup _=>.no| .ref _=>.no| .fn _=>.no| .cls _=>.no| .bi _=>.no| .ke _=>.no
theorem OA.Uk{v:V}:OA λ Q _=>vG Q v s:=match v with| .ref _=>.ret| .none=>.no| .bool _=>.no| .int _=>.no| .str _=>.no| .tup _=>.no| .fn _=>.no| .cls _=>.no| .bi _=>.no| .ke _=>.no
theorem OA.Vc{r v:V}:OA λ Q _=>CF r Q v s:=match v with| .none=>.ret| .ref _=>.no| .bool _=>.no| .int _=>.no| .str _=>.no| .tup _=>.no| .fn _=>.no| .cls _=>.no| .bi _=>.no| .ke _=>.no
theorem OA.aug{J:I}{ρ:Env}{d:Operator}{e:Mine.E}{v:V}(o:lB (J.ev ρ e)):OA λ Q E=>tS J ρ d e Q E v s:=match v with| .int x=>.pt o (kB (jo d) (.int x)) λ _ _=>.yl| .none=>.no| .ref _=>.no| .bool _=>.no| .str _=>.no| .tup _=>.no| .fn _=>.no| .cls _=>.no| .bi _=>.no| .ke _=>.no
end
section
variable{F C:Nat->Option Fn}{I:I}(hv:∀ρ e,lB (I.ev ρ e))(hx:∀ρ st,lB (I.ex ρ st)){ρ:Env}
include hv
theorem mT:∀d,lB (v8 I ρ d)
 | [],_=>.ret
 |e::r,_=>.pt (hv ρ e) (FO (v8 I ρ r)) λ v _=>.pt (mT r) (λ Q _=>yU v Q) λ _ _=>.ret
theorem sa{α:Type}{b:Mine.E}{f:V->V->M α}(v:V)(s:St):OA λ Q E=>kA I ρ b f Q E v s:=.pt (hv ρ b) (kB f v) λ _ _=>.yl
theorem r9:∀lo d,lB (jg I ρ lo d)
 |none,d,_=>.pt (hv ρ d) (kB gb (.int 0)) λ _ _=>.yl
 |some lo,d,_=>.pt (hv ρ lo) (kA I ρ d gb) λ _ _=>sa hv _ _
theorem r8:∀d,lB (iX I ρ d)
 | [],_=>.ret
 |e::r,_=>.pt (hv ρ e) (λ Q E=>mc (λ s=>iX I ρ r Q E s) (Q false)) λ _ _=>.if (r8 r _) .ret
theorem mS{f:Env->PT (List V×Env)}(h:∀ρ,lB (f ρ))(t:T)(d:List Mine.E)(v:V)(ρ:Env):lB (uQ I f t d v ρ):=λ _=>.wp (yK I f d) λ g _=>.pt (r8 hv d) (vF f g) λ b _=>match b with|true=>h g _|false=>.ret
theorem nL{f:Env->PT (List V×Env)}(g:∀ρ,lB (f ρ))(t:T)(d:List Mine.E):∀ (h:List V) (ρ:Env),lB (oO I f t d h ρ)
 | [],_,_=>.ret
 |v::r,ρ,_=>.pt (mS hv g t d v ρ) (λ Q E x s=>pw (oO I f t d r x.2) (λ y s=>Q (x.1++y.1,y.2) s) E s) λ x _=>.pt (nL g t d r x.2) (λ Q _ y s=>Q (x.1++y.1,y.2) s) λ _ _=>.ret
theorem pK{f:Env->PT (List V×Env)}(g:∀ρ,lB (f ρ))(t:T)(d:List Mine.E)(a:Nat):∀ (k i:Nat) (ρ:Env),lB (iL I f t d a k i ρ)
 |0,_,_,_=>.no
 |k+1,i,ρ,s=>.ex λ h=>by
  cases h[i]? with
  |none=>exact .ret
  |some v=>exact .pt (mS hv g t d v ρ) (λ Q E x s=>pw (iL I f t d a k (i+1) x.2) (λ y s=>Q (x.1++y.1,y.2) s) E s) λ x _=>.pt (pK g t d a k (i+1) x.2) (λ Q _ y s=>Q (x.1++y.1,y.2) s) λ _ _=>.ret
theorem yz:∀s,lB (rk I ρ s)
 | .inl e,_=>.pt (hv ρ e) (λ Q _=>vG Q) λ _ _=>.Uk
 | .inr (lo,d),_=>.pt (r9 hv lo d) (λ Q _=>yL Q) λ _ _=>.ret
theorem vh{g:Env->PT (List V×Env)}(h:∀ρ,lB (g ρ))(t:T)(d:List Mine.E):∀ (y:Nat⊕List Int) (ρ:Env),lB (iq I g t d y ρ)
 | .inl a,ρ,_=>.ex λ f=>pK hv h t d a (f.length+1) 0 ρ _
 | .inr f,ρ,_=>nL hv h t d (f.map .int) ρ _
theorem pL{d:Mine.E}:∀ (gs:List (T×o6×List Mine.E)) (ρ:Env),lB (gq I d gs ρ)
 | [],ρ,_=>.pt (hv ρ d) (λ Q _=>yQ ρ Q) λ _ _=>.ret
 |(t,g,f)::gs,ρ,_=>.pt (yz hv g) (Ae I (gq I d gs) t f ρ) λ y _=>vh hv (pL gs) t f y ρ _
omit hv
include hx
theorem gH:∀d ρ,lB (execs I d ρ)
 | [],_,_=>.ret
 |st::r,ρ,_=>.pt (hx ρ st) (Kr (execs I r)) λ y _=>match y with|(.next,f)=>gH r f _|(.cont,_)=>.ret|(.ret _,_)=>.ret
theorem tq(d:Fn)(f:List V):lB (iY I d f):=λ s=>by
 show OA λ Q E=>(match ij d f with|some ρ=>pw (execs I d.body ρ) (ko Q) E s|none=>False)
 cases ij d f with
 |none=>exact .no
 |some ρ=>exact .pt (gH hx _ ρ) (λ Q _=>ko Q) λ y _=>match y with|(.next,_)=>.ret|(.cont,_)=>.no|(.ret _,_)=>.ret
theorem pM:∀ (f:V) (d:List V),lB (nj I F C f d)
 | .fn k,d,s=>by
  show OA λ Q E=>(match (if k=kG then none else F k)with|some g=>pw (iY I g d) Q E s|none=>False)
  cases (if k=kG then none else F k)with
  |none=>exact .no
  |some g=>exact tq hx _ _ _
 | .cls k,d,s=>by
  show OA λ Q E=>(match C k with|some g=>wp (cY (.inst k [])) (m4 I g d Q E) E s|none=>False)
  cases C k with
  |none=>exact .no
  |some g=>exact .wp (m4 I g d) λ r _=>.pt (tq hx _ _) (λ Q _=>CF r Q) λ _ _=>.Vc
 | .bi b,d,_=>.yl
 | .ref a,d,_=>.R5 λ _=>.R5 λ _=>.and (.and (.and (tq hx _ _ _)))
 | .none,_,_| .bool _,_,_| .int _,_,_| .str _,_,_| .tup _,_,_| .ke _,_,_=>.no
theorem vi{b:List S}{K:Env->(Flow×Env->St->Prop)->(Str->St->Prop)->St->Prop}(k:∀ρ s,OA λ Q E=>K ρ Q E s)(s:St):OA λ Q E=>jy I b (gC Q λ ρ s=>K ρ Q E s) E ρ s:=
 .lq (.pt (gH hx b ρ) (λ Q E=>gC Q λ ρ s=>K ρ Q E s) λ y s=>match y with|(.next,d)=>k d s|(.cont,d)=>k d s|(.ret _,_)=>.ret)
theorem vf(t:T)(b:List S)(a:Nat):∀ (k i:Nat) (ρ:Env),lB (ue I t b a k i ρ)
 |0,_,_,_=>.no
 |k+1,i,ρ,s=>.ex λ f=>by
  cases f[i]? with
  |none=>exact .ret
  |some v=>exact .wp (λ Q E=>jy I b (gC Q λ d s=>ue I t b a k (i+1) d Q E s) E) λ _ _=>vi hx (K:=λ d=>ue I t b a k (i+1) d) (λ d s=>vf t b a k (i+1) d s) _
theorem vg(t:T)(b:List S):∀ (f:List Int) (ρ:Env),lB (rA I t b f ρ)
 | [],_,_=>.ret
 |i::r,ρ,_=>.wp (λ Q E=>jy I b (gC Q λ d s=>rA I t b r d Q E s) E) λ _ _=>vi hx (K:=λ d=>rA I t b r d) (λ d s=>vg t b r d s) _
theorem sh{b:List S}{Q:Flow×Env->St->Prop}{K d:Env->St->Prop}{E:Str->St->Prop}{s:St}(h:jy I b (gC Q K) E ρ s)(k:∀ρ s',K ρ s'->d ρ s'):jy I b (gC Q d) E ρ s:=
 pO ((gH hx b ρ).mono (lq h) (λ y _ h=>match y,h with|(.next,_),h=>k _ _ h|(.cont,_),h=>k _ _ h|(.ret _,_),h=>h) λ _ _=>id)
include hv
theorem Ik(ρ:Env):∀e,lB (Zg I F C ρ e):=by
 intro e s
 induction e using Mine.E.casesOn with
 |v i=>
  show OA λ Q _=>I0 ((ρ[i]?).getD none) Q s
  cases (ρ[i]?).getD none with
  |none=>exact .no
  |some v=>exact .ret
 |k v=>exact .ret
 |b A a b=>exact .pt (hv ρ a) (kA I ρ b (jo A)) λ _ _=>sa hv _ _
 |neg a=>exact .pt (hv ρ a) (kU zX) λ _ _=>.yl
 |not a=>exact .pt (hv ρ a) (λ Q _=>Ag Q) λ _ _=>.not
 |p a b=>exact .pt (hv ρ a) (λ Q E=>mc (kE I ρ b (kj Q) E) (kQ Q (.bool false))) λ _ _=>.if (.pt (hv ρ b) (λ Q _=>kj Q) λ _ _=>.bool) .ret
 |q a b=>exact .pt (hv ρ a) (λ Q E=>mc (kQ Q (.bool true)) (kE I ρ b (kj Q) E)) λ _ _=>.if .ret (.pt (hv ρ b) (λ Q _=>kj Q) λ _ _=>.bool)
 |c A a b=>exact .pt (hv ρ a) (kA I ρ b (bz A)) λ _ _=>sa hv _ _
 |ut a J b o2 c=>exact .pt (hv ρ a) (yV I J ρ b o2 c) λ x _=>.pt (hv ρ b) (FQ I J x ρ o2 c) λ y _=>.wp (λ Q E=>mc (kE I ρ c (kB (bz o2) y Q E) E) (kQ Q (.bool false))) λ _ _=>.if (.pt (hv ρ c) (kB (bz o2) y) λ _ _=>.yl) .ret
 |ite c a b=>exact .pt (hv ρ c) (λ Q E=>mc (kE I ρ a Q E) (kE I ρ b Q E)) λ _ _=>.if (hv ρ a _) (hv ρ b _)
 |tup B=>exact .pt (mT hv B) (λ Q _=>ro Q) λ _ _=>.tup
 |l B=>exact .pt (mT hv B) FL λ _ _=>.yl
 |emptyDict=>exact OA.yl (m:=cY (.dM []))
 |fS y e=>exact .pt (hv ρ e) (yT y) λ _ _=>.yl
 |i a i=>exact .pt (hv ρ a) (kA I ρ i cK) λ _ _=>sa hv _ _
 |sl a lo L=>induction lo with
  |none=>induction L with
   |none=>exact .no
   |some e=>exact .pt (hv ρ a) (kA I ρ e uZ) λ _ _=>sa hv _ _
  |some e=>induction L with
   |none=>exact .pt (hv ρ a) (kA I ρ e uY) λ _ _=>sa hv _ _
   |some _=>exact .no
 |t a n=>exact .pt (hv ρ a) (kU (zE n)) λ _ _=>.yl
 |call f d=>exact .pt (hv ρ f) (FN I F C ρ d) λ g _=>.pt (mT hv d) (yX I F C g) λ _ _=>.lq (pM hx _ _ _)
 |sN k p e r=>exact .pt (hv ρ e) (Ru I F C k p r) λ _ _=>.lq (pM hx _ _ _)
 |fY o m d=>exact .pt (hv ρ o) (tQ I ρ m d) λ x _=>.wp (tP I x ρ m d) λ _ _=>.pt (mT hv d) (yO x m) λ _ _=>.yl
 |pZ a b=>exact .pt (hv ρ a) (λ Q E=>kA I ρ b gb (Af Q E) E) λ x _=>.pt (hv ρ b) (λ Q E=>kB gb x (Af Q E) E) λ _ _=>.wp Af λ _ _=>.yl
 |comp Y G u=>
  induction u with
  |nil=>exact .no
  |cons g gs=>obtain ⟨t,U,j⟩:=g;exact .pt (yz hv U) (vH I G gs t j (lS ρ Y)) λ y s=>⟨λ h q x=>(vh hv (pL hv gs) t j y _ s).el h (λ a s' k r=>OA.yl.el k (λ b H O z=>q b H O λ Q' E' c=>r (tO Q' E') _ (z Q' E' c)) λ w H e z=>x w H e λ Q' E' c=>r (tO Q' E') _ (z Q' E' c)) λ _ _ h _=>h.elim⟩
theorem Ij(ρ:Env):∀st,lB (Ze I ρ st):=by
 intro st s
 induction st using Mine.S.casesOn with
 |a t e=>
  induction t with
  |one i=>exact .pt (hv ρ e) (λ Q _=>tM ρ i Q) λ _ _=>.ret
  |m u=>exact .pt (hv ρ e) (yP ρ u) λ _ _=>.wp (λ Q _=>FP Q) λ _ _=>.ret
 |dc a i e=>exact .pt (hv ρ e) (tK I ρ a i) λ v _=>.pt (hv ρ a) (tJ I v ρ i) λ x _=>.pt (hv ρ i) (yM x v ρ) λ _ _=>.wp (λ Q _=>ja ρ Q) λ _ _=>.ret
 |aC a n e=>exact .pt (hv ρ e) (tL I ρ a n) λ v _=>.pt (hv ρ a) (yN n v ρ) λ _ _=>.wp (λ Q _=>ja ρ Q) λ _ _=>.ret
 |lz i d e=>exact OA.wp (m:=sb ((ρ[i]?).getD none)) (λ Q E=>tS I ρ d e (tM ρ i Q) E) λ v s=>⟨λ h q x=>(OA.aug (v:=v) (hv ρ e)).el h (λ a s' k r=>q _ _ k λ Q' E' c=>r (tM ρ i Q') _ c) λ w s' k r=>x w s' k λ Q' E' c=>r (tM ρ i Q') _ c⟩
 |mv a i d e=>exact .pt (hv ρ a) (tR I ρ i d e) λ x _=>.pt (hv ρ i) (yW I x ρ d e) λ y _=>.wp (λ Q E=>tS I ρ d e (qe x y ρ Q E) E) λ v s=>⟨λ h q l=>(OA.aug (v:=v) (hv ρ e)).el h (λ a s' k r=>OA.yl.el k (λ b o p g=>q _ _ p λ Q' E' c=>r (qe x y ρ Q' E') _ (g (ja ρ Q') E' c)) λ w o e g=>l w o e λ Q' E' c=>r (qe x y ρ Q' E') _ (g (ja ρ Q') E' c)) λ w s' k r=>l w s' k λ Q' E' c=>r (qe x y ρ Q' E') _ c⟩
 |e e=>exact .pt (hv ρ e) (λ Q _=>ja ρ Q) λ _ _=>.ret
 |ez c t f=>exact .pt (hv ρ c) (λ Q E=>mc (kX I t ρ Q E) (kX I f ρ Q E)) λ _ _=>.if (.lq (gH hx t ρ _)) (.lq (gH hx f ρ _))
 |ek t j b=>
  induction j with
  |inl j=>exact .pt (hv ρ j) (yR I t b ρ) λ _ _=>.R5 λ _=>.R5 λ z=>.and (.and (vf hx t b _ _ 0 ρ _))
  |inr r=>exact .pt (r9 hv r.1 r.2) (yS I t b ρ) λ _ _=>vg hx t b _ ρ _
 |nA c=>exact .pt (hv ρ c) (λ Q _=>mc (λ _=>False) λ s=>Q (Flow.next,ρ) s) λ _ s=>.if .no (OA.ret (a:=(Flow.next,ρ)))
 |ret e=>
  induction e with
  |none=>exact .ret
  |some e=>exact .pt (hv ρ e) (λ Q _=>FK ρ Q) λ _ _=>.ret
 |raise w e=>exact .pt (hv ρ e) (λ _ E=>tN w E) λ _ _=>.exc
 |cont=>exact .ret
 |bad=>exact .no
end
theorem dL{F C:Nat->Option Fn}:∀n,(∀ρ e,lB ((KN F C n).ev ρ e))/\∀ρ st,lB ((KN F C n).ex ρ st)
 |0=>⟨λ _ _ _=>.no,λ _ _ _=>.no⟩
 |n+1=>⟨λ ρ e=>Ik (dL n).1 (dL n).2 ρ e,λ ρ st=>Ij (dL n).1 (dL n).2 ρ st⟩
section
variable{n:Nat}{ρ:Env}{Q:Flow×Env->St->Prop}{E:Str->St->Prop}{s:St}
theorem kO{t:T}{b:List S}{a:Nat}{d:List V}(Inv:Nat->Env->St->Prop)(l:∀i ρ s,Inv i ρ s->s[a]?= some (.list d))
  (step:∀i v ρ s,d[i]?= some v->Inv i ρ s->wp (fL t v ρ) (jy (SS n) b (gC Q (Inv (i+1))) E) E s)
  (done:∀ρ s,Inv d.length ρ s->Q (.next,ρ) s):∀ (k i:Nat) (ρ:Env) (s:St),i+k=d.length+1->i<=d.length->Inv i ρ s->pw (ue (SS n) t b a k i ρ) Q E s
 |0,i,ρ,s,h,j,g=>by exfalso;exact Nd h j
 |k+1,i,ρ,s,f,j,g=>by
  refine(aw d (l i ρ s g) ?_);generalize hv:d[i]?= p;induction p with
  |none=>
   have:i=d.length:=by have:=List.getElem?_eq_none_iff.mp hv;exact Nc j this
   subst this;exact done _ _ g
  |some v=>have o:=(cw.mp hv).1;exact wp_mono (step i v ρ s hv g) (λ _ _ h=>sh (dL n).2 h (λ ρ s h=>kO Inv l step done k (i+1) ρ s ((Nat.add_right_comm i 1 k).trans f) o h)) λ _ _=>id
theorem qr{t:T}{b:List S}{xs:List Int}(Inv:Nat->Env->St->Prop)
  (step:∀i x ρ s,xs[i]?= some x->Inv i ρ s->wp (fL t (.int x) ρ) (jy (SS n) b (gC Q (Inv (i+1))) E) E s)
  (done:∀ρ s,Inv xs.length ρ s->Q (.next,ρ) s):∀ (k:Nat) (i:Nat) (ρ:Env) (s:St),i+k=xs.length->Inv i ρ s->pw (rA (SS n) t b (xs.drop i) ρ) Q E s
 |0,i,ρ,s,h,f=>by
  erw[List.drop_eq_nil_of_le (Nb h)]
  have:i=xs.length:=by exact Na h
  subst this;exact done _ _ f
 |k+1,i,ρ,s,d,f=>by
  have g:i<xs.length:=by exact M9 d
  exact aU (List.drop_eq_getElem_cons g) (wp_mono (step i xs[i] ρ s (bT g) f) (λ _ _ h=>sh (dL n).2 h (λ ρ s h=>qr Inv step done k (i+1) ρ s ((Nat.add_right_comm i 1 k).trans d) h)) λ _ _=>id)
theorem eh{t:T}{b:List S}{a:Nat}{d:List V}(J:Nat->Env->St->Prop)(f:∀i ρ s,J i ρ s->s[a]?= some (.list d))
  (step:∀i v ρ s,d[i]?= some v->J i ρ s->∀I:Env->St->Prop,(∀ρ s,J (i+1) ρ s->I ρ s)->wp (fL t v ρ) (jy (SS n) b (gC Q I) E) E s)
  (done:∀ρ s,J d.length ρ s->Q (.next,ρ) s) (k i:Nat) (ρ:Env) (s:St) (h:i+k=d.length+1) (g:i<=d.length) (j:J i ρ s):pw (ue (SS n) t b a k i ρ) Q E s:=
 kO J f (λ i v ρ s hv h=>step i v ρ s hv h _ λ _ _ z=>z) done k i ρ s h g j
theorem eM{t:T}{b:List S}{xs:List Int}(J:Nat->Env->St->Prop)
  (step:∀i x ρ s,xs[i]?= some x->J i ρ s->∀I:Env->St->Prop,(∀ρ s,J (i+1) ρ s->I ρ s)->wp (fL t (.int x) ρ) (jy (SS n) b (gC Q I) E) E s)
  (done:∀ρ s,J xs.length ρ s->Q (.next,ρ) s) (k i:Nat) (ρ:Env) (s:St) (h:i+k=xs.length) (d:J i ρ s):pw (rA (SS n) t b (xs.drop i) ρ) Q E s:=
 qr J (λ i v ρ s hv h=>step i v ρ s hv h _ λ _ _ z=>z) done k i ρ s h d
theorem bt{Q:Env->St->Prop}{i:Nat}{v:V}:wp (fL (.one i) v ρ) Q E s=Q (ρ.set i (some v)) s:=bJ rfl
theorem cD{Q:Env->St->Prop}{d:List Nat}{v:V}:wp (fL (.m d) v ρ) Q E s=wp (lb d v ρ) Q E s:=rfl
end
section
variable{n:Nat}{ρ:Env}{Q Q':V->St->Prop}{E:Str->St->Prop}{s:St}
theorem aG{v:V}:ko Q (.ret v,ρ) s=Q v s:=rfl
theorem fq:ko Q (.next,ρ) s=Q .none s:=rfl
theorem gX{d:Fn}{f:List V}(g:ij d f=some ρ):pw (iY (SS n) d f) Q E s=px n d.body ρ (ko Q) E s:=by
 erw[pH]
 show(match ij d f with|some ρ=>pw (execs (SS n) d.body ρ) (ko Q) E s|none=>False)=_;exact aU g rfl
theorem ba{k:Nat}{d:Fn}{f:List V}(g:k≠1000)(j:FF k=some d)(h:ij d f=some ρ):pc n (.fn k) f Q E s=px n d.body ρ (ko Q) E s:=by
 erw[pJ]
 show(match (if k=kG then none else FF k)with|some d=>pw (iY (SS n) d f) Q E s|none=>False)=_;have l:=g
 erw[if_neg l,j]
 exact gX h
theorem aZ{b:BI}{d:List V}:pc n (.bi b) d Q E s=wp (iu b d) Q E s:=by exact aU pJ rfl
theorem call_cls{k:Nat}{d:Fn}{f:List V}(g:CC k=some d):pc n (.cls k) f Q E s=wp (cY (.inst k [])) (m4 (SS n) d f Q E) E s:=by
 erw[pJ]
 show(match CC k with|some d=>wp (cY (.inst k [])) (m4 (SS n) d f Q E) E s|none=>False)=_;exact aU g rfl
theorem U2{d:Fn}{f:List V}{r:V}:m4 (SS n) d f Q E r s=pw (iY (SS n) d (r::f)) (CF r Q) E s:=rfl
theorem sv{r:V}:CF r Q .none s=Q r s:=rfl
theorem AI{a l:Nat}{d:List V}(h:s[a]?= some (.tell l))(g:d.length=2)(f:pw (iY (SS n) qt (d++[.ref l])) Q E s):pc n (.ref a) d Q E s:=by exact aU pJ (gj l qt h rfl g f)
theorem Qt{f:V}{d:List V}(h:pc n f d Q E s)(g:∀a s',Q a s'->Q' a s'):pc n f d Q' E s:=by rw[pJ]at h ⊢;exact(pM (dL n).2 f d).mono h g λ _ _=>id
theorem Ie{d:List S}{Q Q':Flow×Env->St->Prop}(h:px n d ρ Q E s)(f:∀a s',Q a s'->Q' a s'){E':Str->St->Prop}(g:∀w s',E w s'->E' w s'):px n d ρ Q' E' s:=by rw[pH]at h ⊢;exact(gH (dL n).2 d ρ).mono h f g
theorem Dw{α:Type}{m:PT α}{Q Q':α->St->Prop}(d:QT m)(h:pw m Q E s)(f:∀a s',Q a s'->Q' a s'):pw m Q' E s:=d h f λ _ _=>id
end
section
variable{Q:V->St->Prop}{E:Str->St->Prop}{s s' bh:St}{x y:Int}{a b:V}
theorem n8(h:s[d]?= some (.list c)):rK s d=some c:=by unfold rK;exact aU h rfl
theorem lJ(h:s[d]?= some (.list c)):vL s (.ref d)=some c:=n8 h
theorem Bf(h:s[d]?= some (.inst k c)):vN s (.ref d)=some (k,c):=by show s[d]?.bind Io=_;exact aU h rfl
theorem dp:wp (jo .Add (.int x) (.int y)) Q E s=Q (.int (x+y)) s:=bJ rfl
theorem gu:wp (jo .Sub (.int x) (.int y)) Q E s=Q (.int (x - y)) s:=bJ rfl
theorem QI(h:y≠0):wp (jo .Mod (.int x) (.int y)) Q E s=Q (.int (Int.fmod x y)) s:=bJ (by show gB (!decide (y=0)) (iS (V.int (Int.fmod x y))) s=_;erw[bA h];rfl)
theorem Ki(h:y≠0)(c:iZ y=true):wp (jo .FloorDiv (.int x) (.int y)) Q E s=Q (.int (Int.fdiv x y)) s:=bJ (by show gB (!decide (y=0)&&iZ y) (iS (V.int (Int.fdiv x y))) s=_;erw[bA h,c];rfl)
theorem QH(d:iZ x=true)(c:iZ y=true):wp (jo .Mult (.int x) (.int y)) Q E s=Q (.int (x * y)) s:=bJ (by show gB (iZ x&&iZ y) (iS (V.int (x * y))) s=_;erw[d,c];rfl)
theorem sg:wp (zX (.int x)) Q E s=Q (.int (-x)) s:=bJ rfl
theorem la:wp (bz .Lt (.int x) (.int y)) Q E s=Q (.bool (decide (x<y))) s:=bJ rfl
theorem ku:wp (bz .LtE (.int x) (.int y)) Q E s=Q (.bool (decide (x<=y))) s:=bJ rfl
theorem n4:wp (bz .Gt (.int x) (.int y)) Q E s=Q (.bool (decide (y<x))) s:=bJ rfl
theorem Ke:wp (bz .GtE (.int x) (.int y)) Q E s=Q (.bool (decide (y<=x))) s:=bJ rfl
theorem iM(h:lQ dY s a b=some r):wp (bz .Eq a b) Q E s=Q (.bool r) s:=bJ (by show vk (lQ dY s a b) s=_;exact aU h rfl)
theorem rJ(h:lQ dY s a b=some r):wp (bz .NotEq a b) Q E s=Q (.bool (!r)) s:=bJ (by show vk ((lQ dY s a b).map (!·)) s=_;exact aU h rfl)
theorem gt(h:FW a b=some r):wp (bz .Is a b) Q E s=Q (.bool r) s:=bJ (by show vk (FW a b) s=_;exact aU h rfl)
theorem fy(h:FW a b=some r):wp (bz .IsNot a b) Q E s=Q (.bool (!r)) s:=bJ (by show vk ((FW a b).map (!·)) s=_;exact aU h rfl)
theorem AF:lQ dY s (.int x) (.int y)=some (decide (x=y)):=rfl
theorem um{x y:Str}:lQ dY s (.str x) (.str y)=some (decide (x=y)):=rfl
theorem ab9{y:Str}:lQ dY s .none (.str y)=some false:=rfl
theorem J0{d:Nat}{c:List V}{y:Str}(h:s[d]?= some (.list c)):lQ dY s (.ref d) (.str y)=some false:=by
 show(rK s d).bind _=_
 erw[n8 h];rfl
theorem cN:wp (cK (.tup [c,d]) (.int 0)) Q E s=Q c s:=bJ rfl
theorem eP:wp (cK (.tup [c,d]) (.int 1)) Q E s=Q d s:=bJ rfl
theorem Vg:wp (cK (.tup [c,d,e]) (.int 0)) Q E s=Q c s:=bJ rfl
theorem Jf:wp (cK (.tup [c,d,e]) (.int 1)) Q E s=Q d s:=bJ rfl
theorem Je:wp (cK (.tup [c,d,e]) (.int 2)) Q E s=Q e s:=bJ rfl
theorem CP:wp (cK (.tup [c,d,e,f]) (.int 0)) Q E s=Q c s:=bJ rfl
theorem CO:wp (cK (.tup [c,d,e,f]) (.int 1)) Q E s=Q d s:=bJ rfl
theorem t0:wp (cK (.tup [c,d,e,f]) (.int 2)) Q E s=Q e s:=bJ rfl
theorem mf:wp (cK (.tup [c,d,e,f]) (.int 3)) Q E s=Q f s:=bJ rfl
theorem CQ(h:s[d]?= some (.list c))(g:kh x c.length=some j)(f:c[j]?= some v):wp (cK (.ref d) (.int x)) Q E s=Q v s:=
 bJ (by
  have e:L6 c x=some v:=by unfold L6;exact aU g f
  show gO s[d]? _ s=_
  erw[h]
  show gO (L6 c x) iS s=_;exact aU e rfl)
theorem zT{j n:Nat}(h:j<n):kh (j:Int) n=some j:=by
 unfold kh
 erw[if_pos (B8),if_pos (Cg h)];simp
theorem bL{d j:Nat}{c:List V}{v:V}(h:s[d]?= some (.list c))(e:c[j]?= some v):wp (cK (.ref d) (.int (j:Int))) Q E s=Q v s:=
 CQ h (zT (cw.mp e).1) e
theorem y9(h:s[d]?= some (.fS c))(f:c.find? (·.1==k)=some e):wp (cK (.ref d) (.str k)) Q E s=Q e.2 s:=
 bJ (by show gO s[d]? _ s=_;erw[h];show gO (c.find? _) _ s=_;exact aU f rfl)
theorem dg(h:s[d]?= some (.inst k c))(e:Fd k=true)(f:c.lookup j=some v):wp (cM (.ref d) j) Q E s=Q v s:=
 bJ (by unfold cM;erw[Bf h];show gB (Fd k) (gO (c.lookup j) iS) s=_;erw[e,f];rfl)
theorem len_list(h:s[d]?= some (.list c)):wp (iu .len [.ref d]) Q E s=Q (.int c.length) s:=
 bJ (by show gO (vL s (.ref d)) _ s=_;erw[lJ h];rfl)
theorem Kh:wp (iu .min [.int x,.int y]) Q E s=Q (.int (if y<x then y else x)) s:=bJ rfl
theorem Ea:wp (iu .max [.int x,.int y]) Q E s=Q (.int (if x<y then y else x)) s:=bJ rfl
noncomputable def Kp(W:List Nat)(s s':St):Prop:=s.length<=s'.length/\∀b x,b∉W->s[b]?= some x->s'[b]?= some x
theorem Kp.refl:Kp W s s:=⟨Nat.le_refl _,λ _ _ _ h=>h⟩
theorem Kp.gG(k:Kp W s s')(d:Kp c s' bh)(h:∀a∈c,a∈W∨s.length<=a):Kp W s bh:=by
 refine⟨Nat.le_trans k.1 d.1,λ b x f e=>d.2 b x (λ z=>?_) (k.2 b x f e)⟩;rcases h b z with h|h
 ·exact f h
 ·have:=(cw.mp e).1;exact Hn h this
theorem Kp.trans(k:Kp W s s')(c:Kp W s' bh):Kp W s bh:=k.gG c λ _ h=>.inl h
theorem Kp.wide(k:Kp W s s')(h:∀a∈W,a∈W₂):Kp W₂ s s':=⟨k.1,λ b x c e=>k.2 b x (λ z=>c (h b z)) e⟩
theorem Kp.of(k:Kp [] s s'):Kp W s s':=k.wide λ _ h=>bQ (h)
theorem Kp.at{W:List Nat}(k:Kp W s s'){b:Nat}{o:d4}(h:s[b]?= some o)(c:b∉W):s'[b]?= some o:=k.2 b o c h
theorem Kp.bM(k:Kp [] s s'){b:Nat}{o:d4}(h:s[b]?= some o):s'[b]?= some o:=k.2 b o (λ z=>bQ (z)) h
theorem bD{b:Nat}{o:d4}(h:s[b]?= some o):b<s.length:=(cw.mp h).1
theorem eA{o:d4}(h:∀s',s'[s.length]?= some o->Kp [] s s'->s'.length=s.length+1->Q (.ref s.length) s'):wp (cY o) Q E s:=by exact aU (bJ (m:=cY o) rfl) (h _ (by simp) ⟨by simp,λ b x _ e=>by exact aU (List.getElem?_append_left (bD e)) e⟩ (by simp))
theorem bk(d:c.length<=1000000)(h:∀s',s'[s.length]?= some (.list c)->Kp [] s s'->s'.length=s.length+1->Q (.ref s.length) s'):wp (lZ c) Q E s:=by
 have e:lZ c s=cY (.list c) s:=by
  show(if hU c then cY (.list c) s else .bad)=_
  erw[if_pos (by unfold hU;exact bq d)];rfl
 exact(rO e).mpr (eA h)
theorem p0:Kp [d] s (s.set d o):=⟨by simp,λ b x c e=>by exact aU (List.getElem?_set_ne (λ z=>c (by simp [z]))) e⟩
theorem kC{d:Nat}{c:List V}{v:V}{Q:Unit->St->Prop}(h:s[d]?= some (.list c))(i:0<=x)(g:x<c.length)(f:∀s',s'[d]?= some (.list (c.set x.toNat v))->Kp [d] s s'->s'.length=s.length->Q () s'):wp (ik (.ref d) (.int x) v) Q E s:=by
 have e:ik (.ref d) (.int x) v s=.ok () (s.set d (.list (c.set x.toNat v))):=by
  show gO s[d]? _ s=_
  erw[h]
  show gB (decide (0<=x)&&decide (x<c.length)) _ s=_
  erw[bq i,bq g];rfl
 exact aU (bJ e) (f _ (by erw[List.getElem?_set_self (bD h)];rfl) p0 (by simp))
theorem HW{d:Nat}{c:List (Int×V)}{v:V}{Q:Unit->St->Prop}(h:s[d]?= some (.dM c))(i:c.length<1000)(g:c.any (·.1==x)=false)(f:∀s',s'[d]?= some (.dM (c++[(x,v)]))->Kp [d] s s'->s'.length=s.length->Q () s'):wp (ik (.ref d) (.int x) v) Q E s:=by
 have e:ik (.ref d) (.int x) v s=.ok () (s.set d (.dM (c++[(x,v)]))):=by
  show gO s[d]? _ s=_
  erw[h]
  show gB (decide (c.length<1000)) (BA d (.dM (xb x v c))) s=_
  erw[bq i]
  unfold xb;exact aU g rfl
 exact aU (bJ e) (f _ (by erw[List.getElem?_set_self (bD h)];rfl) p0 (by simp))
theorem dI{d k j:Nat}{c:List (Nat×V)}{v:V}{Q:Unit->St->Prop}(h:s[d]?= some (.inst k c))(g:Fd k=true)(i:j<bH.length)(f:∀s',s'[d]?= some (.inst k (iR j v c))->Kp [d] s s'->s'.length=s.length->Q () s'):wp (gY (.ref d) j v) Q E s:=by
 have e:gY (.ref d) j v s=.ok () (s.set d (.inst k (iR j v c))):=by
  unfold gY;show gO (vN s (.ref d)) _ s=_
  erw[Bf h]
  show gB (Fd k&&decide (j<bH.length)) _ s=_
  erw[g,bq i];rfl
 exact aU (bJ e) (f _ (by erw[List.getElem?_set_self (bD h)];rfl) p0 (by simp))
theorem gK{d j:Nat}{c:List V}{Q:Unit->St->Prop}(h:s[d]?= some (.list c))(e:j=0∨j=1):wp (ge (.ref d) j) Q E s=Q () s:=
 bJ (by rcases e with rfl|rfl<;>(show gO s[d]? _ s=_;exact aU h rfl))
theorem IY{d:Nat}{c:List (Int×V)}{Q:Unit->St->Prop}(h:s[d]?= some (.dM c)):wp (ge (.ref d) 2) Q E s=Q () s:=bJ (by show gO s[d]? _ s=_;exact aU h rfl)
theorem eZ{d:Nat}{c:List V}{v:V}(h:s[d]?= some (.list c))(g:c.length+1<=1000000)(f:∀s',s'[d]?= some (.list (c++[v]))->Kp [d] s s'->s'.length=s.length->Q .none s'):wp (m0 (.ref d) 0 [v]) Q E s:=by
 have e:m0 (.ref d) 0 [v] s=.ok .none (s.set d (.list (c++[v]))):=by
  show gO s[d]? _ s=_
  erw[h]
  show gB (hU (c++[v])) _ s=_
  erw[show hU (c++[v])=true from bq (by rw[List.length_append];exact g)];rfl
 exact aU (bJ e) (f _ (by erw[List.getElem?_set_self (bD h)];rfl) p0 (by simp))
theorem uN{d f:Nat}{c us:List V}(h:s[d]?= some (.list c))(j:s[f]?= some (.list us))(i:c.length+us.length<=1000000)(g:∀s',s'[d]?= some (.list (c++us))->Kp [d] s s'->s'.length=s.length->Q .none s'):wp (m0 (.ref d) 1 [.ref f]) Q E s:=by
 have e:m0 (.ref d) 1 [.ref f] s=.ok .none (s.set d (.list (c++us))):=by
  show gO s[d]? _ s=_
  erw[h]
  show gO (vL s (.ref f)) _ s=_
  erw[lJ j]
  show gB (hU (c++us)) _ s=_
  erw[show hU (c++us)=true from bq (by rw[List.length_append];exact i)];rfl
 exact aU (bJ e) (g _ (by erw[List.getElem?_set_self (bD h)];rfl) p0 (by simp))
theorem sV(h:s[d]?= some (.list c))(k:s[g]?= some (.list f))(j:c.length+f.length<=1000000)(i:∀s',s'[s.length]?= some (.list (c++f))->Kp [] s s'->s'.length=s.length+1->Q (.ref s.length) s'):wp (jo .Add (.ref d) (.ref g)) Q E s:=by
 have e:jo .Add (.ref d) (.ref g) s=lZ (c++f) s:=by
  show gO (vL s (.ref d)) _ s=_
  erw[lJ h]
  show gO (vL s (.ref g)) _ s=_
  erw[lJ k];rfl
 exact(rO e).mpr (bk (by exact aU List.length_append j) i)
theorem Be(h:s[d]?= some (.list [v]))(g:0<=x)(f:x<=1000)(c:∀s',s'[s.length]?= some (.list (List.replicate x.toNat v))->Kp [] s s'->s'.length=s.length+1->Q (.ref s.length) s'):wp (jo .Mult (.ref d) (.int x)) Q E s:=by
 have e:jo .Mult (.ref d) (.int x) s=cY (.list (List.replicate x.toNat v)) s:=by
  show gO ((vL s (.ref d)).bind one) _ s=_
  erw[lJ h]
  show gB (decide (0<=x)&&decide (x<=1000)) _ s=_
  erw[bq g,bq f];rfl
 exact(rO e).mpr (eA c)
theorem nB(h:s[d]?= some (.list c))(f:∀s',s'[s.length]?= some (.list c)->Kp [] s s'->s'.length=s.length+1->Q (.ref s.length) s'):wp (iu .list [.ref d]) Q E s:=by
 have e:iu .list [.ref d] s=cY (.list c) s:=by
  show gO (vL s (.ref d)) _ s=_
  erw[lJ h];rfl
 exact(rO e).mpr (eA f)
theorem G9(h:s[d]?= some (.list c))(i:0<=x)(g:iZ x=true)(f:∀s',s'[s.length]?= some (.list (c.drop x.toNat))->Kp [] s s'->s'.length=s.length+1->Q (.ref s.length) s'):wp (uY (.ref d) (.int x)) Q E s:=by
 have e:uY (.ref d) (.int x) s=cY (.list (c.drop x.toNat)) s:=by
  show gB (decide (0<=x)&&iZ x) _ s=_
  erw[bq i,g]
  show gO (vL s (.ref d)) _ s=_
  erw[lJ h];rfl
 exact(rO e).mpr (eA f)
theorem G8(h:s[d]?= some (.list c))(i:0<=x)(g:iZ x=true)(f:∀s',s'[s.length]?= some (.list (c.take x.toNat))->Kp [] s s'->s'.length=s.length+1->Q (.ref s.length) s'):wp (uZ (.ref d) (.int x)) Q E s:=by
 have e:uZ (.ref d) (.int x) s=cY (.list (c.take x.toNat)) s:=by
  show gB (decide (0<=x)&&iZ x) _ s=_
  erw[bq i,g]
  show gO (vL s (.ref d)) _ s=_
  erw[lJ h];rfl
 exact(rO e).mpr (eA f)
end
section
variable{n:Nat}{ρ:Env}{E:Str->St->Prop}{s:St}{Q:List V×Env->St->Prop}{kf:Env->PT (List V×Env)}{t:T}{ifs:List Mine.E}
theorem fB(h:pw m Q (λ _ _=>False) s):pw (sf m) Q E s:=h
theorem kb{a:Mine.E}{Q:Nat⊕List Int->St->Prop}:pw (rk (SS n) ρ (.inl a)) Q E s=pw ((SS n).ev ρ a) (vG Q) E s:=rfl
theorem iF{a:Nat}{Q:Nat⊕List Int->St->Prop}:vG Q (.ref a) s=Q (.inl a) s:=rfl
theorem Cz{r:Int×Int}{Q:Nat⊕List Int->St->Prop}:yL Q r s=Q (.inr (di r.1 r.2)) s:=rfl
theorem Hf{lo:Option Mine.E}{a:Mine.E}{Q:Nat⊕List Int->St->Prop}:pw (rk (SS n) ρ (.inr (lo,a))) Q E s=pw (jg (SS n) ρ lo a) (yL Q) E s:=rfl
theorem eJ{Q:Bool->St->Prop}:pw (iX (SS n) ρ []) Q E s=Q true s:=rfl
theorem rQ{Q:Bool->St->Prop}{e:Mine.E}:pw (iX (SS n) ρ [e]) Q E s=pw ((SS n).ev ρ e) (mc (Q true) (Q false)) E s:=rfl
theorem fF:pw (uQ (SS n) kf t ifs v ρ) Q E s=wp (fL t v ρ) (yK (SS n) kf ifs Q E) E s:=rfl
theorem ie:yK (SS n) kf ifs Q E ρ s=pw (iX (SS n) ρ ifs) (vF kf ρ Q E) E s:=rfl
theorem fG:vF kf ρ Q E true s=pw (kf ρ) Q E s:=rfl
theorem yI:vF kf ρ Q E false s=Q ([],ρ) s:=rfl
theorem jO:yQ ρ Q v s=Q ([v],ρ) s:=rfl
theorem Hu:Ae (SS n) kf t ifs ρ Q E x s=pw (iq (SS n) kf t ifs x ρ) Q E s:=rfl
theorem en(m:∀ρ,lB (kf ρ))(Inv:Nat->List V->Env->St->Prop)(g:∀i o ρ s,Inv i o ρ s->s[a]?= some (.list b))
  (step:∀i o v ρ s,b[i]?= some v->Inv i o ρ s->pw (uQ (SS n) kf t ifs v ρ) (λ x s=>Inv (i+1) (o++x.1) x.2 s) E s):
  ∀ (k i:Nat) (o:List V) (ρ:Env) (s:St) {Q:List V×Env->St->Prop},i+k=b.length+1->i<=b.length->Inv i o ρ s->(∀x s,Inv b.length (o++x.1) x.2 s->Q x s)->pw (iL (SS n) kf t ifs a k i ρ) Q E s
 |0,i,o,ρ,s,_,h,f,d,_=>by exfalso;exact Nd h f
 |k+1,i,o,ρ,s,Q,h,f,d,j=>by
  refine(aw b (g i o ρ s d) ?_);generalize e:b[i]?= u;induction u with
  |none=>
   have:i=b.length:=by have:=List.getElem?_eq_none_iff.mp e;exact Nc f this
   subst this;exact j ([],ρ) s (by rw[List.append_nil];exact d)
  |some v=>have q:=(cw.mp e).1;exact(mS (dL n).1 m t ifs v ρ).mono (step i o v ρ s e d) (λ x p r=>en m Inv g step k (i+1) (o++x.1) x.2 p (jI (.k (.a (.a W0 (.c 1)) W1) (.a W2 (.c 1))) [.k (.a W0 (.a W1 (.c 1))) (.a W2 (.c 1))] (.s 0 (.l [1,0,1]) (.l [1,1])) rfl h) q r λ y z w=>j _ _ (by rw[← List.append_assoc];exact w)) λ _ _=>id
theorem nY{xs:List Int}(f:∀ρ,lB (kf ρ))(Inv:Nat->List V->Env->St->Prop)
  (step:∀i o x ρ s,xs[i]?= some x->Inv i o ρ s->pw (uQ (SS n) kf t ifs (.int x) ρ) (λ x s=>Inv (i+1) (o++x.1) x.2 s) E s):
  ∀ (k i:Nat) (o:List V) (ρ:Env) (s:St) {Q:List V×Env->St->Prop},i+k=xs.length->Inv i o ρ s->(∀x s,Inv xs.length (o++x.1) x.2 s->Q x s)->pw (oO (SS n) kf t ifs ((xs.drop i).map .int) ρ) Q E s
 |0,i,o,ρ,s,Q,h,d,b=>by
  erw[List.drop_eq_nil_of_le (Nb h)]
  have:i=xs.length:=by exact Na h
  subst this;exact b ([],ρ) s (by rw[List.append_nil];exact d)
 |k+1,i,o,ρ,s,Q,h,d,b=>by
  have e:i<xs.length:=by exact M9 h
  erw[List.drop_eq_getElem_cons e,List.map_cons]
  exact(mS (dL n).1 f t ifs _ ρ).mono (step i o xs[i] ρ s (bT e) d) (λ x g j=>nY f Inv step k (i+1) (o++x.1) x.2 g (jI (.k (.a (.a W0 (.c 1)) W1) W2) [.k (.a W0 (.a W1 (.c 1))) W2] (.s 0 (.l [1,0,1]) (.l [1,1])) rfl h) j λ y p m=>b _ _ (by rw[← List.append_assoc];exact m)) λ _ _=>id
theorem eO(h:s[a]?= some (.list b))(c:pw (iL (SS n) kf t ifs a (b.length+1) 0 ρ) Q E s):pw (iq (SS n) kf t ifs (.inl a) ρ) Q E s:=(aw b h c)
theorem sK:pw (iq (SS n) kf t ifs (.inr a) ρ) Q E s=pw (oO (SS n) kf t ifs (a.map .int) ρ) Q E s:=rfl
theorem jm:pw (gq (SS n) a [] ρ) Q E s=pw ((SS n).ev ρ a) (yQ ρ Q) E s:=rfl
theorem zo:pw (gq (SS n) a ((t,b,ifs)::gs) ρ) Q E s=pw (rk (SS n) ρ b) (Ae (SS n) (gq (SS n) a gs) t ifs ρ Q E) E s:=rfl
theorem fH:∀ρ,lB (gq (SS n) a gs ρ):=pL (dL n).1 gs
end
theorem ab8:hU [a]=true:=rfl
theorem Qb:hU [a,b]=true:=rfl
theorem ab7:hU [a,b,c]=true:=rfl
theorem ab6:hU [a,b,c,d]=true:=rfl
theorem Hi{s:St}{a b:Nat}{x y:d4}(d:s[a]?= some x)(c:s[b]?= some y)(h:x≠y):a≠b:=λ z=>by subst z;rw[d]at c;exact h (an c)
noncomputable def rangeT(lo a:Int):V:=.tup [.str "range",.int lo,.int a]
noncomputable def Sub(s:St)(a:Nat)(lo c:Int):Prop:=∃b,s[a]?= some (.inst 30 b)/\b.lookup 7=some (rangeT lo c)
theorem Sub.kp(h:Sub s a lo b)(k:Kp W s s')(c:a∉W):Sub s' a lo b:=by rwa[ac h,f e d,-h];exact(aw f (k.at e c) d)
section
variable{n:Nat}{Q:V->St->Prop}{E:Str->St->Prop}{s:St}
theorem EN(h:E "constraint_error" s):pc (n+8) (.fn 15) [v] Q E s:=by refine(ba (ρ:=[some (v),none]) (by decide) rfl rfl).mpr ?_;simp only[P9,ae,pB,af,ak,am,aj,tH];exact h
theorem c50(h:E "constraint_error" s):pc (n+8) (.fn 50) [v] Q E s:=by refine(ba (ρ:=[some (v),none]) (by decide) rfl rfl).mpr ?_;simp only[PP,ae,pB,af,ak,am,aj,tH];exact h
theorem c16(h:Q (.int (if a - lo+1<0 then 0 else a - lo+1)) s):pc (n+8) (.fn 16) [.int lo,.int a] Q E s:=by refine(ba (ρ:=[some (.int lo),some (.int a),none]) (by decide) rfl rfl).mpr ?_;simp only[P8,ae,aT,ax,ag,aL,ah,bG,af,aq,ak,am,aj,bU,cz,gu,dp,aA,ai,ao,aB,aZ,Ea,br,aF,aG];exact h
theorem Xe(c:Sub s a lo b)(h:Q (.tup [.int lo,.int b]) s):pc (n+8) (.fn 51) [.ref a] Q E s:=by rwa[ac c,i e d,-c];have g:∀ {Q E},wp (cM (.ref a) 7) Q E s=Q (rangeT lo b) s:=dg e rfl d;have f:∀ {Q E},wp (bz .Is (.tup [.str "range",.int lo,.int b]) .none) Q E s=Q (.bool false) s:=gt rfl;refine(ba (ρ:=[some (.ref a)]) (by decide) rfl rfl).mpr ?_;simp only[PO,ae,bv,aI,bF,af,ak,am,aj,ci,g,rangeT,bU,ag,aS,f,aJ,c7,aM,aa,aT,bX,ah,aV,bp,Jf,aA,Je,ai,ao,cJ,br,aF,aG];exact h
theorem c35(b:s[w]?= some (.inst 29 e))(a:e.lookup 8=some (.str "int"))(h:Q (.bool true) s):pc (n+8) (.fn 35) [.ref w] Q E s:=by have d:∀ {Q E},wp (cM (.ref w) 8) Q E s=Q (.str "int") s:=dg b rfl a;have c:∀ {Q E},wp (bz .In (.str "int") (.tup [.str "enum",.str "int",.str "mod",.str "fixed",.str "universal"])) Q E s=Q (.bool true) s:=bJ rfl;refine(ba (ρ:=[some (.ref w),none]) (by decide) rfl rfl).mpr ?_;simp only[PU,ae,aT,aI,bF,af,ak,am,aj,ci,d,bU,ag,aS,c,br,aF,aG];exact h
theorem Zv{a w:Nat}{c gs:List (Nat×V)}{b:Str}(i:s[a]?= some (.inst 30 c))(g:c.lookup 6=some (.ref w))(f:s[w]?= some (.inst 29 gs))(e:gs.lookup 8=some (.str b))(d:b≠ "private")
  (h:Q (.ref a) s):pc (n+8) (.fn 40) [.ref a] Q E s:=by
 have l:∀ {Q E},wp (cM (.ref a) 6) Q E s=Q (.ref w) s:=dg i rfl g;have k:∀ {Q E},wp (cM (.ref w) 8) Q E s=Q (.str b) s:=dg f rfl e;have j:∀ {Q E},wp (bz .Eq (.str b) (.str "private")) Q E s=Q (.bool false) s:=iM (by erw[um,bA d];rfl);refine(ba (ρ:=[some (.ref a),none,none,none,none,none]) (by decide) rfl rfl).mpr ?_;simp only[PR,ae,az,ag,aX,aO,aN,aa,Bv,aT,af,ak,am,aj,br,aF,aG,dU,aI,bF,ci,l,k,bU,aS,j,aJ,tI];exact h
theorem Xf{w:Nat}{gs:List (Nat×V)}{a:Str}(d:s[w]?= some (.inst 29 gs))(c:gs.lookup 8=some (.str a))(b:a≠ "private")
  (h:Q (.ref w) s):pc (n+8) (.fn 41) [.ref w] Q E s:=by
 have f:∀ {Q E},wp (cM (.ref w) 8) Q E s=Q (.str a) s:=dg d rfl c;have e:∀ {Q E},wp (bz .NotEq (.str a) (.str "private")) Q E s=Q (.bool true) s:=rJ (r:=false) (by erw[um,bA b];rfl);refine(ba (ρ:=[some (.ref w),none,none]) (by decide) rfl rfl).mpr ?_;simp only[PQ,ae,bv,aI,bF,af,ak,am,aj,ci,f,bU,ag,aS,e,aQ,c7,aT,br,aF,aG];exact h
theorem c52(h:Q (.bool (decide (lo<=v)&&decide (v<=b))) s):pc (n+8) (.fn 52) [.int v,.int lo,.int b] Q E s:=by
 have c:∀ {x:Int} {Q E},wp (bz .Is (.int x) .none) Q E s=Q (.bool false) s:=gt rfl;refine(ba (ρ:=[some (.int v),some (.int lo),some (.int b)]) (by decide) rfl rfl).mpr ?_;by_cases a:lo<=v
 ·rw[bq a,Bool.true_and]at h;simp only[JV,ae,aT,dU,eD,aI,af,aq,ak,am,aj,bU,ag,aS,c,aJ,gy,Ke,bq a,cW,aQ,ku,br,aF,aG];exact h
 ·rw[bA a,Bool.false_and]at h;simp only[JV,ae,aT,dU,eD,aI,af,aq,ak,am,aj,bU,ag,aS,c,aJ,gy,Ke,bA a,cW,tI,br,aF,aG];exact h
theorem c53(b:Sub s a lo c)(h:Q (.bool (decide (lo<=v)&&decide (v<=c))) s):pc (n+12) (.fn 53) [.ref a,.int v] Q E s:=by refine(ba (ρ:=[some (.ref a),some (.int v),none,none,none,none]) (by decide) rfl rfl).mpr ?_;simp only[PN,ae,iE,ax,ag,aL,ah,af,ak,am,aj,aA,ai,ao,aB];refine Xe b ?_;simp only[qd,bY,aO,aN,vE,aa,ae,aT,ax,ag,aL,ah,af,aq,ak,am,aj,aA,ai,ao,aB];exact c52 h
theorem c54(d:Sub s a lo b)(h:lo≤v∧v≤b→Q (.int v) s)(e: ¬ (lo≤v∧v≤b)→E "constraint_error" s):pc (n+18) (.fn 54) [.ref a,.int v] Q E s:=by
 refine(ba (ρ:=[some (.ref a),some (.int v),none,none]) (by decide) rfl rfl).mpr ?_;simp only[PM,ae,bv,qw,ax,ag,aL,ah,af,ak,am,aj,aA,aq,ai,ao,aB];refine c53 d ?_;simp only[k_not];by_cases q:lo<=v/\v<=b
 ·erw[bq q.1,bq q.2]
  simp only[Bool.and_self,Bool.not_true,aJ,c7,aM,aa,ae,aT,af,aq,ak,am,aj,br,aF,aG];exact h q
 ·have:(!(decide (lo<=v)&&decide (v<=b)))=true:=by
   by_cases c:lo<=v
   ·have: ¬ v<=b:=λ z=>q ⟨c,z⟩;simp [c,this]
   ·simp [c]
  erw[this]
  simp only[aQ,c7,ae,cb,ax,ag,aL,ah,aA,ai,ao,aB];exact c50 (e q)
theorem c60(a:s[c]?= some (.inst 30 b))(g:b.lookup 6=some (.ref w))(f:s[w]?= some (.inst 29 gs))(e:gs.lookup 8=some (.str "int"))(i:b.lookup 7=some (rangeT lo d))
  (h:lo≤v∧v≤d→Q (.int v) s) (j: ¬ (lo≤v∧v≤d)→E "constraint_error" s):pc (n+24) (.fn 60) [.ref c,.int v] Q E s:=by
 have k:∀ {Q E},wp (cM (.ref c) 6) Q E s=Q (.ref w) s:=dg a rfl g;refine(ba (ρ:=[some (.ref c),some (.int v),none,none,none,none,none,none,none]) (by decide) rfl rfl).mpr ?_;simp only[PJ,ae,az,ax,ag,aL,ah,af,ak,am,aj,aA,ai,ao,aB];refine Zv a g f e (by decide+kernel) ?_;simp only[aX,aN,aa,ae,az,bF,af,ak,am,aj,ci,k,aO,bv,ax,ag,aL,ah,aq,aA,ai,ao,aB];refine c35 f e ?_;simp only[aQ,c7,ae,aT,ax,ag,aL,ah,af,ak,am,aj,aA,aq,ai,ao,aB];exact c54 (aw b a i) h j
end
abbrev End:=Int×Int
noncomputable def iV(w:V)(e:End):V:=.tup [.str "tell",w,.int e.1,.int e.2]
noncomputable def r7(w:V)(p:End×End):V:=.tup [iV w p.1,iV w p.2]
noncomputable def du(p:Int×Int):V:=.tup [.int p.1,.int p.2]
inductive eY where
 |pos|gc|eG (l:List (End×End))
inductive Ch where
 |pos|gc|eG (l:List (Int×Int))
 deriving DecidableEq
noncomputable def eY.ch:eY->Ch
 | .pos=>.pos
 | .gc=>.gc
 | .eG l=>.eG (l.map λ p=>(p.1.2,p.2.2))
noncomputable def eY.marks:eY->List Int
 | .eG l=>l.flatMap λ p=> [p.1.1,p.2.1]
 |_=> []
noncomputable def jf(s:St)(w:V):eY->V->Prop
 | .pos,v=>v=.none
 | .gc,v=>v=.str "others"
 | .eG l,v=>∃a,v=.ref a/\s[a]?= some (.list (l.map (r7 w)))
noncomputable def oj(s:St):Ch->V->Prop
 | .pos,v=>v=.none
 | .gc,v=>v=.str "others"
 | .eG l,v=>∃a,v=.ref a/\s[a]?= some (.list (l.map du))
noncomputable def Tl(s:St)(told:Nat)(lg:List Int):Prop:=s[told]?= some (.list (lg.map .int))
structure Wo(s:St)(r nd tl told lim:Nat):Prop where
 run:∃fs,s[r]?= some (.inst 64 fs)/\fs.lookup 30=some (.ref nd)/\fs.lookup 29=some (.ref lim)
 UK:s[nd]?= some (.fS [("tell",.ref tl)])
 tell:s[tl]?= some (.tell told)
 lim:∃fs,s[lim]?= some (.inst 81 fs)/\fs.lookup 57=some (.int 24)
noncomputable def LW(W:List Nat)(s:St):Prop:=∀a∈W,∃b,s[a]?= some (.list b)
theorem LW.one(h:s[a]?= some (.list d)):LW [a] s:=λ b c=>by rw[dF]at c;subst c;exact⟨_,h⟩
theorem LW.nil:LW [] s:=λ _ h=>bQ (h)
theorem LW.not(h:LW W s)(e:s[b]?= some o)(d:∀a,o≠ .list a):b∉W:=λ z=>by rwa[aW (h b z),a c];rw[e]at c;exact d a (an c)
theorem Wo.kp{s s':St}{r nd tl told lim:Nat}{W:List Nat}(x:Wo s r nd tl told lim)(k:Kp W s s')(h:LW W s):Wo s' r nd tl told lim:=by obtain ⟨⟨i,d,g,f⟩,c,b,⟨gs,a,e⟩⟩:=x;exact⟨(cR i (k.at d (h.not d λ _ z=>bZ vm (z) rfl)) g f),k.at c (h.not c λ _ z=>bZ vm (z) rfl),k.at b (h.not b λ _ z=>bZ vm (z) rfl),(aw gs (k.at a (h.not a λ _ z=>bZ vm (z) rfl)) e)⟩
theorem jw(l:List (End×End)):(eY.eG l).marks.length=2 * l.length:=by
 show(l.flatMap λ p=> [p.1.1,p.2.1]).length=_
 induction l with
 |nil=>rfl
 |cons x l b=>erw[List.flatMap_cons,List.length_append,b];simp;exact mF (.k (.a (.c 2) (.m 2 W0)) (.m 2 (.a W0 (.c 1)))) [] (.s 0 (.l [1]) (.l [1])) rfl
section
variable{n:Nat}{Q:V->St->Prop}{E:Str->St->Prop}{s:St}{r nd tl told lim:Nat}{lg:List Int}{w:V}
theorem Hd(c:Wo s r nd tl told lim)(b:Tl s told lg)(d:lg.length+1<=1000000)(h:∀a,Tl a told (lg++[e.1])->Kp [told] s a->a.length=s.length->Q (.int e.2) a):
  pc (n+8) (.ref tl) [.ref r,iV w e] Q E s:=by
 refine AI c.tell rfl ((gX (ρ:=[some (.ref r),some (iV w e),some (.ref told)]) rfl).mpr ?_);have g:∀ {Q E},wp (ge (.ref told) 0) Q E s=Q () s:=gK b (.inl rfl);unfold iV;simp only[qt,ae,cb,eV,af,aq,ak,am,aj,eU,g,eT,ah,aV,bU,ag,bp,t0,aA,ai,ao,gh];rwa[eZ b (by rw[bo];exact d),a f k l];simp only[aP,aa,ae,aT,aV,af,aq,ak,am,aj,bU,ag,bp,mf,br,aF,aG];exact h a (by unfold Tl;erw[f,List.map_append];rfl) k l
theorem c62(a:Wo s r nd tl told lim)(c:Tl s told lg)(d:lg.length+1<=1000000)(h:∀b,Tl b told (lg++[e.1])->Kp [told] s b->b.length=s.length->Q (.int e.2) b):
  pc (n+16) (.fn 62) [.ref r,iV w e] Q E s:=by
 rwa[bR a.run,m g f l];have k:∀ {Q E},wp (cM (.ref r) 30) Q E s=Q (.ref nd) s:=dg g rfl f;have j:∀ {Q E},wp (bz .NotIn (.str "tell") (.ref nd)) Q E s=Q (.bool false) s:=bJ (by show gO (s[nd]?.bind Im) _ s=_;exact aU a.UK rfl);have i:∀ {Q E},wp (cK (.ref nd) (.str "tell")) Q E s=Q (.ref tl) s:=y9 (e:=("tell",.ref tl)) a.UK rfl;refine(ba (ρ:=[some (.ref r),some (iV w e),none]) (by decide) rfl rfl).mpr ?_;unfold iV;simp only[PI,ae,bv,aI,aV,af,aq,ak,am,aj,bU,ag,bp,CP,bF,ci,k,aS,j,aJ,c7,aM,aa,aT,ax,i,aL,ah,aA,ai,ao,aB];exact Hd a c d h
theorem Zu(b:Wo s r nd tl told lim)(c:Tl s told lg)(d:lg.length+1<=1000000)(h:∀a,Tl a told (lg++[e.1])->Kp [told] s a->a.length=s.length->Q (.int e.2) a):
  pc (n+16) (.fn 68) [.ref r,iV w e] Q E s:=by
 rwa[bR b.run,m g f l];have k:∀ {Q E},wp (cM (.ref r) 30) Q E s=Q (.ref nd) s:=dg g rfl f;have j:∀ {Q E},wp (iu .isinstance [.tup [.str "tell",w,.int e.1,.int e.2],.bi .lU]) Q E s=Q (.bool true) s:=bJ rfl;have i:∀ {Q E},wp (cK (.ref nd) (.str "tell")) Q E s=Q (.ref tl) s:=y9 (e:=("tell",.ref tl)) b.UK rfl;refine(ba (ρ:=[some (.ref r),some (iV w e),none,none]) (by decide) rfl rfl).mpr ?_;unfold iV;simp only[JU,ae,bv,ax,ag,aL,ah,af,aq,ak,am,aj,aA,ai,ao,aB,aZ,j,aQ,c7,aT,aV,bF,ci,k,bU,bp,CP,i];exact Hd b c d h
theorem QD(h:Q (.int x) s):pc (n+16) (.fn 68) [.ref r,.int x] Q E s:=by have a:∀ {Q E},wp (iu .isinstance [.int x,.bi .lU]) Q E s=Q (.bool false) s:=bJ rfl;refine(ba (ρ:=[some (.ref r),some (.int x),none,none]) (by decide) rfl rfl).mpr ?_;simp only[JU,ae,bv,ax,ag,aL,ah,af,aq,ak,am,aj,aA,ai,ao,aB,aZ,a,aJ,c7,aM,aa,aT,br,aF,aG];exact h
theorem c71(wo:Wo s r nd tl told lim)(x:Tl s told lg)(B:jf s w c v)(hl:lg.length+c.marks.length<=1000000)(hn:∀a,v=.ref a->a≠told)(dT:∀l,c=.eG l->l.length<=1000)
  (h:∀d O,oj d c.ch O->Tl d told (lg++c.marks)->Kp [told] s d->(∀a,O=.ref a->s.length<=a)->Q O d):pc (n+30) (.fn 71) [.ref r,v] Q E s:=by
 have fC:∀ {Q E},wp (bz .Is .none .none) Q E s=Q (.bool true) s:=gt rfl
 induction c with
 |pos=>
  cases B
  refine(ba (ρ:=[some (.ref r),some .none,none,none,none,none,none,none]) (by decide) rfl rfl).mpr ?_;simp only[Gk,ae,bv,eD,aI,af,aq,ak,am,aj,bU,ag,aS,fC,aQ,tI,c7,aT,br,aF,aG];exact h s .none rfl (by simpa [eY.marks] using x) .refl (λ _ z=>bZ ri (z) rfl)
 |gc=>
  cases B
  have CI:∀ {Q E},wp (bz .Is (.str "others") .none) Q E s=Q (.bool false) s:=gt rfl;have Vb:∀ {Q E},wp (bz .Eq (.str "others") (.str "others")) Q E s=Q (.bool true) s:=iM (by exact aU um rfl);refine(ba (ρ:=[some (.ref r),some (.str "others"),none,none,none,none,none,none]) (by decide) rfl rfl).mpr ?_;simp only[Gk,ae,bv,eD,aI,af,aq,ak,am,aj,bU,ag,aS,CI,aJ,gy,Vb,cW,aQ,c7,aT,br,aF,aG];exact h s _ rfl (by simpa [eY.marks] using x) .refl (λ _ z=>bZ ri (z) rfl)
 |eG l=>
  rwa[ac B,a bw Y];try clear B;subst bw
  have zm:=hn a rfl;have CI:∀ {Q E},wp (bz .Is (.ref a) .none) Q E s=Q (.bool false) s:=gt rfl;have Vb:∀ {Q E},wp (bz .Eq (.ref a) (.str "others")) Q E s=Q (.bool false) s:=iM (J0 Y);refine(ba (ρ:=[some (.ref r),some (.ref a),none,none,none,none,none,none]) (by decide) rfl rfl).mpr ?_;simp only[Gk,ae,bv,eD,aI,af,aq,ak,am,aj,bU,ag,aS,CI,aJ,gy,Vb,cW,c7,aM,aa,az,bx,ai,b8];rwa[bk (by decide),ay f1 u l1];have YF:=u.bM Y;have Yn:Tl ay told lg:=u.bM x;have ZQ:=wo.kp u .nil;have V0:s.length≠a:=by have:=bD Y;exact AX this
  have VX:s.length≠told:=by have:=bD x;exact AX this
  simp only[aX,aO,aN,aa,ae];refine eQ ?_;simp only[af,aq,ak,am,aj,gL];refine(c9 a _ rfl YF ?_);refine eh (λ i t d=>∃J H G,t=[some (.ref r),some (.ref a),some (.ref s.length),J,H,G,none,none]/\d[s.length]?= some (.list ((l.take i).map λ p=>du (p.1.2,p.2.2)))/\
   Tl d told (lg++(eY.eG (l.take i)).marks)/\Kp [s.length,told] ay d) (λ i t d YR=>by rwa[ig YR,_ _ _ _ _ _ k,-YR];exact k.at YF (by exact wM (V0.symm) (zm))) (λ i v t d g m A8 ma=>?_) (λ t d m=>?_) _ 0 _ ay (by exact Nat.zero_add _) (Nat.zero_le _) (gM none none none rfl (by simpa using f1) (by simpa [eY.marks] using Yn) .refl)
  ·rwa[ig m,J H G b7 A q k];try clear m;subst b7
   rw[cg]at g;generalize y:l[i]?= ZK;induction ZK with
   |none=>rw[y]at g;exact aD (g)
   |some p=>
    rw[y]at g;obtain rfl:=an (g);have m7:=(cw.mp y).1;have tk:l.take (i+1)=l.take i++[p]:=by erw[List.take_add_one,y];rfl
    have EJ:=dT l rfl;have mk:(eY.eG (l.take (i+1))).marks=(eY.eG (l.take i)).marks++[p.1.1]++[p.2.1]:=by erw[tk];simp [eY.marks]
    have f:lg.length+(eY.eG (l.take i)).marks.length+2<=1000000:=by have e2:=jw (l.take i);rw[jw]at hl;rw[List.length_take]at e2;exact M8 hl m7 e2 (Mine.L.vr _ _)
    unfold r7;have XE:Wo d r nd tl told lim:=ZQ.kp k (λ b f=>by
     rcases List.mem_cons.mp f with rfl|f
     ·exact⟨_,f1⟩
     ·rw[dF]at f;subst f;exact⟨_,Yn⟩)
    simp only[cD,bY,aO,aN,cQ,ae,az,ax,ag,aL,ah,af,ak,am,aj,aA,aq,ai,ao,aB];rwa[Zu XE q (by simp only[List.length_append];exact iA (.i (.a (.a W0 W1) (.c 1)) (.c 1000000)) [.i (.a (.a W0 W1) (.c 2)) (.c 1000000)] (.l [1,1]) rfl f),aH t2 U l2];have pe:=U.at A (by exact jh (VX));have g1:∀ {Q E},wp (ge (.ref s.length) 0) Q E aH=Q () aH:=gK pe (.inl rfl);simp only[aX,aO,aN,aa,ae,cb,eV,af,aq,ak,am,aj,eU,g1,eT,ah,bX,aA,ax,ag,aL,ai,ao,aB];rwa[Zu (XE.kp U (.one q)) t2 (by simp only[List.length_append,List.length_singleton];exact iA (.i (.a (.a (.a W0 W1) (.c 1)) (.c 1)) (.c 1000000)) [.i (.a (.a W0 W1) (.c 2)) (.c 1000000)] (.l [1,1]) rfl f),bf t3 k3 l3];have zj:=k3.at pe (by exact jh (VX));simp only[aA,ai,ao,cJ,gh];rwa[eZ zj (by simp only[bo,List.length_take];exact jI (.i (.a W0 (.c 1)) (.c 1000000)) [.j W1 W2,.i W2 (.c 1000),.o (.e (.i W1 W2) (.k W0 W1)) (.e (.i W2 W1) (.k W0 W2))] (.s 3 (.l [0,1,0,1,1,1]) (.l [0,1,0,1,0,1])) rfl m7 EJ (Mine.L.vr _ _)),bK f4 k4 l4];simp only[aP,aa,aM,be];refine ma _ _ (gM _ _ _ rfl ?_ ?_ ?_)
    ·erw[f4,tk,List.map_append];rfl
    ·unfold Tl
     erw[k4.at t3 (by exact jh (VX.symm)),mk];simp only[List.append_assoc]
    ·refine((k.gG U ?_).gG k3 ?_).gG k4 ?_<;> simp
  ·rwa[ig m,J H G cH A q k];try clear m;subst cH
   rw[bo,List.take_length]at A q;simp only[aa,ae,aT,af,aq,ak,am,aj,br,aF,aG];refine h d _ (aw s.length rfl ?_) q (u.of.gG k ?_) (λ a z=>by obtain rfl:=V.ref.inj (z);exact Nat.le_refl _)
   ·erw[A];simp [eY.ch]
   ·intro b f;rcases List.mem_cons.mp f with rfl|f
    ·exact .inr (Nat.le_refl _)
    ·exact .inl f
end
abbrev Rg:=Int×Int
noncomputable def wE(x:Int):Prop:= -1000<=x/\x<=1000
theorem wE.ok(h:wE x):iZ x=true:=by
 rwa[aK h,b a,-h]
 unfold iZ;erw[bq (by exact ed (.l (.g (.c 4611686018427387904)) Y0) [.l (.g (.c 1000)) Y0] (.l [1,1]) rfl b),bq (by exact ed (.p Y0 (.c 4611686018427387904)) [.l Y0 (.c 1000)] (.l [1,1]) rfl a)];rfl
theorem cr(b: -1000000<=x)(a:x<=1000000):iZ x=true:=by
 unfold iZ;erw[bq (by exact ed (.l (.g (.c 4611686018427387904)) Y0) [.l (.g (.c 1000000)) Y0] (.l [1,1]) rfl b),bq (by exact ed (.p Y0 (.c 4611686018427387904)) [.l Y0 (.c 1000000)] (.l [1,1]) rfl a)];rfl
noncomputable def dZ(r:Rg):Prop:=wE r.1/\wE r.2
noncomputable def fv(r:Rg):Int:=if r.2 - r.1+1<0 then 0 else r.2 - r.1+1
theorem fi(r:Rg):fv r=((r.2 - r.1+1).toNat:Int):=by unfold fv;split<;> omega
noncomputable def hG:Option Rg->V
 |none=>.none
 |some g=>du g
noncomputable def bj:List Ch->List Rg
 | []=> []
 | .eG l::r=>l++bj r
 |_::r=>bj r
theorem kg(a b:List Ch):bj (a++b)=bj a++bj b:=by
 induction a with
 |nil=>rfl
 |cons c a d=>rcases c with ⟨⟩<;> simp [bj,d]
noncomputable def dG(f:Option Rg)(r:Rg):Option Rg:=match f with
 |none=>some r
 |some f=>if f.1 > f.2/\r.1<=r.2 then some r else if r.1<=r.2 then some (if r.1<f.1 then r.1 else f.1,if f.2<r.2 then r.2 else f.2)else some f
theorem tA(b:f.1 > f.2)(a:r.1<=r.2):dG (some f) r=some r:=by
 show(if f.1 > f.2/\r.1<=r.2 then some r else _)=_
 erw[if_pos ⟨b,a⟩];rfl
theorem mX(a: ¬ r.1<=r.2):dG (some f) r=some f:=by
 show(if f.1 > f.2/\r.1<=r.2 then some r else if r.1<=r.2 then _ else some f)=_
 erw[if_neg (λ z=>a z.2),if_neg a];rfl
theorem tB(b: ¬ f.1 > f.2)(a:r.1<=r.2):dG (some f) r=some (if r.1<f.1 then r.1 else f.1,if f.2<r.2 then r.2 else f.2):=by
 show(if f.1 > f.2/\r.1<=r.2 then some r else if r.1<=r.2 then _ else some f)=_
 erw[if_neg (λ z=>b z.1),if_pos a];rfl
noncomputable def jv(rs:List Rg):Option Rg:=rs.foldl dG none
noncomputable def eB(given:Option Rg)(a:Int):Int:=match given with|some g=>g.1|none=>a
noncomputable def cZ(b:List Ch)(given:Option Rg)(a:Int):Option Rg:=
 if b.getLast? =some .gc then given else match b.head? with
  |some (.eG _)=>jv (bj b)
  |_=>some (eB given a,eB given a+b.length - 1)
structure WF(cs:List Ch):Prop where
 at_:∃l o,cs=l++o/\(o=[]∨o=[.gc])/\((∀c∈l,c=.pos)∨(∀c∈l,∃rs,c=.eG rs/\rs≠ []/\rs.length<=1000/\∀r∈rs,dZ r))/\l.length<=100
noncomputable def qQ(s:St)(a:Nat)(d:List Ch):Prop:=∃b,s[a]?= some (.list b)/\b.length=d.length/\∀ (i:Nat) (c:Ch),d[i]?= some c->∃v,b[i]?= some (.tup [v,.int (i:Int)])/\oj s c v
section
variable{n:Nat}{Q:V->St->Prop}{E:Str->St->Prop}{s:St}
theorem Rt(x y:Int):(if y<x then y else x)=if y<x then y else x:=rfl
theorem c21(Y:qQ s a d)(hc:∀c∈d,∃rs,c=.eG rs)(h:Q (hG (jv (bj d))) s):pc (n+30) (.fn 21) [.ref a] Q E s:=by
 rwa[bR Y,vs ha dT hv,-Y];refine(ba (ρ:=[some (.ref a),none,none,none,none,none,none,none]) (by decide) rfl rfl).mpr ?_;simp only[P5,ae,az,ag,aX,aO,aN,aa]
 skip
 refine eQ ?_;simp only[af,ak,am,aj,gL];refine(c9 a vs rfl ha ?_);refine kO (λ i g r=>r=s/\∃B A m l,g=[some (.ref a),some (hG (jv (bj (d.take i)))),B,A,m,l,none,none]) (λ i g r YQ=>by rwa[aK YQ,e _,-YQ];exact aU e ha) (λ i v g r O w=>?_) (λ g r w=>?_) _ 0 _ s (by exact Nat.zero_add _) (Nat.zero_le _) ⟨rfl,none,none,none,none,rfl⟩
 ·rwa[aK w,bw b7];try clear w;subst bw;rwa[Gu b7,B A m l cH];try clear b7;subst cH
  have z:i<d.length:=by exact fM dT ((cw.mp O).1)
  rwa[ac (hv i d[i] (bT z)),v' e1 J];rwa[aW (hc d[i] (List.getElem_mem z)),rs L];rw[O]at e1;obtain rfl:=an (e1);rw[L]at J;rwa[ac J,b dy hb];try clear J;subst dy
  have tk:d.take (i+1)=d.take i++[.eG rs]:=by erw[List.take_add_one,bT z,L];rfl
  simp only[cD,bY,aO,aN,cQ,ae]
  skip
  refine eQ ?_;simp only[af,aq,ak,am,aj,gL];refine(c9 b _ rfl hb ?_);have base:bj (d.take (i+1))=bj (d.take i)++rs:=by rw[tk,kg];simp [bj]
  refine kO (λ j g o=>o=r/\∃m l,g=[some (.ref a),some (hG (jv (bj (d.take i)++rs.take j))),some (.ref b),some (.int (i:Int)),m,l,none,none]) (λ j g o YO=>by rwa[aK YO,e _,-YO];exact aU e hb) (λ j v g o t u=>?_) (λ g o u=>?_) _ 0 _ r (by exact Nat.zero_add _) (Nat.zero_le _) ⟨rfl,m,l,by simp⟩
  ·rwa[aK u,eK fO];try clear u;subst eK;rwa[d9 fO,m l gU];try clear fO;subst gU
   rw[cg]at t;generalize G:rs[j]?= ZJ;induction ZJ with
   |none=>rw[G]at t;exact aD (t)
   |some p=>
    rw[G]at t;obtain rfl:=an (t);have q:jv (bj (d.take i)++rs.take (j+1))=dG (jv (bj (d.take i)++rs.take j)) p:=by rw[List.take_add_one,G,← List.append_assoc];simp [jv,List.foldl_append]
    generalize hf:jv (bj (d.take i)++rs.take j)=ZI;induction ZI with
    |none=>rw[hf]at q;have H:∀ {Q E},wp (bz .Is .none .none) Q E o=Q (.bool true) o:=gt rfl;unfold du hG;simp only[cD,bY,aO,aN,cQ,ae,bv,eD,aI,af,aq,ak,am,aj,bU,ag,aS,H,aQ,tI,c7,az,bX,ah,aA,ai,ao,cJ,aX,aa,aM,be];exact⟨trivial,_,_,by exact aU q rfl⟩
    |some f=>
     rw[hf]at q;have H:∀ {Q E},wp (bz .Is (.tup [.int f.1,.int f.2]) .none) Q E o=Q (.bool false) o:=gt rfl;unfold hG du;simp only[cD,bY,aO,aN,cQ,ae,bv,eD,aI,af,aq,ak,am,aj,bU,ag,aS,H,aJ,gy,dU,aV,bp,cN,eP,n4];by_cases y:f.1 > f.2
     ·have x:=y;by_cases k:p.1<=p.2
      ·simp only[bq x,aQ,gy,aI,af,aq,ak,am,aj,bU,aS,ku,bq k,cW,c7,ae,az,bX,ah,aA,ai,ao,cJ,aX,aO,aN,aa,aM,be];exact⟨trivial,_,_,by erw[q,tA y k];rfl⟩
      ·simp only[bq x,aQ,gy,aI,af,aq,ak,am,aj,bU,aS,ku,bA k,cW,aJ,c7,ae,bv,aM,aa,be];exact⟨trivial,_,_,by erw[q,mX k];rfl⟩
     ·have x:=y;by_cases k:p.1<=p.2
      ·simp only[bA x,aJ,tI,cW,c7,ae,bv,aI,af,aq,ak,am,aj,bU,aS,ku,bq k,aQ,az,bX,ah,ax,ag,aL,aV,bp,cN,aA,ai,ao,aB,aZ,Kh,eP,Ea,cJ,aX,aO,aN,aa,aM,be];exact⟨trivial,_,_,by erw[q,tB y k];rfl⟩
      ·simp only[bA x,aJ,tI,cW,c7,ae,bv,aI,af,aq,ak,am,aj,bU,aS,ku,bA k,aM,aa,be];exact⟨trivial,_,_,by rw[q,mX k]⟩
  ·rwa[aK u,ip U];try clear u;subst ip;rwa[d9 U,m l d8];try clear U;subst d8
   rw[bo,List.take_length];simp only[aa,aM,be];exact⟨trivial,_,_,_,_,by exact aU base rfl⟩
 ·rwa[aK w,fu fZ];try clear w;subst fu;rwa[Gu fZ,B A m l gm];try clear fZ;subst gm
  erw[dT,List.take_length]
  simp only[aa,ae,aT,af,aq,ak,am,aj,br,aF,aG];exact h
end
section
variable{n:Nat}{Q:V->St->Prop}{E:Str->St->Prop}{s:St}
theorem WF.last(w:WF a)(h:a.getLast? ≠some .gc):(∀c∈a,c=.pos)∨(∀c∈a,∃rs,c=.eG rs/\rs≠ []/\rs.length<=1000/\∀r∈rs,dZ r):=by
 rwa[dm w.at_,l o e b d _];subst e;rcases b with rfl|rfl
 ·simpa using d
 ·exact absurd (by simp) h
theorem Gx(h:oj s c v):lQ dY s v (.str "others")=some (decide (c=.gc)):=by
 induction c with
 |pos=>cases h;rfl
 |gc=>cases h;erw[um];simp
 |eG l=>rwa[ac h,a d b];try clear h;subst d;erw[J0 b];simp
theorem y5(h:oj s c v):FW v .none=some (decide (c=.pos)):=by
 induction c with
 |pos=>cases h;rfl
 |gc=>cases h;rfl
 |eG l=>rwa[ac h,a b d];try clear h;subst b;rfl
theorem Rz:FW (hG g) .none=some (decide (g=none)):=by rcases g with ⟨⟩<;> rfl
theorem c22(y:qQ s a b)(hw:WF b)(h:Q (hG (cZ b given d)) s):pc (n+40) (.fn 22) [.ref a,hG given,.int d] Q E s:=by
 have zc:=y;rwa[bR y,vs B dT O,-y];obtain ⟨N,u⟩:∃N,N=b.length:=⟨_,rfl⟩;have f:∀ {Q E},wp (iu .len [.ref a]) Q E s=Q (.int (N:Int)) s:=by intro Q E;erw[len_list B,dT,u];rfl
 refine(ba (ρ:=[some (.ref a),some (hG given),some (.int d),none,none,none]) (by decide) rfl rfl).mpr ?_;simp only[P4,ae,bv,dU,aI,ax,ag,aL,ah,af,ak,am,aj,aA,ai,ao,aB,aZ,f,bU,aS,n4]
 induction b with
 |nil=>
  have G:N=0:=u;subst G;have w:decide ((0:Int)< ((0:Nat):Int))=false:=rfl;simp only[w,aJ,tI,c7,aM,aa,ae,bv,dU,aI,ax,ag,aL,ah,af,ak,am,aj,aA,ai,ao,aB,aZ,f,bU,aS,n4,aq]
  induction given with
  |none=>have i:∀ {Q E},wp (bz .IsNot .none .none) Q E s=Q (.bool false) s:=fy (r:=true) rfl;unfold hG at h ⊢;simp only[i,aJ,c7,aM,aa,ae,aT,bX,ah,af,aq,ak,am,aj,aA,bG,bU,ax,ag,aL,ai,ao,aB,aZ,f,cz,dp,gu,cJ,br,aF,aG];simpa [cZ,eB,du] using h
  |some g=>have i:∀ {Q E},wp (bz .IsNot (.tup [.int g.1,.int g.2]) .none) Q E s=Q (.bool true) s:=fy (r:=false) rfl;unfold hG du at h ⊢;simp only[i,aQ,c7,ae,az,aV,af,aq,ak,am,aj,bU,ag,bp,cN,aX,aO,aN,aa,aM,aT,bX,ah,aA,bG,ax,aL,ai,ao,aB,aZ,f,cz,dp,gu,cJ,br,aF,aG];simpa [cZ,eB,du] using h
 |cons c b=>
  have OL:=u;have w:decide ((0:Int)< (N:Int))=true:=bq (iA (.p (.c 0) (.t W0)) [.k W0 (.a W1 (.c 1))] (.l [1,0,1]) rfl OL);have J:∃x,(c::b)[b.length]?= some x/\(c::b).getLast? =some x:=by
   refine(aw ((c::b)[b.length]'(by simp)) (bT _) ?_)
   erw[List.getLast?_eq_getElem?];simp
  rwa[ac J,x NK CT,-J];rwa[ac (O _ _ NK),v e1 e2];have g1:∀ {Q E},wp (cK (.ref a) (.int ((N:Int) - 1))) Q E s=Q (.tup [v,.int (b.length:Int)]) s:=by
   intro Q E;have:((N:Int) - 1)=((b.length:Nat):Int):=by exact iA (.q (.s (.t W0) (.c 1)) (.t W1)) [.k W0 (.a W1 (.c 1))] (.s 0 (.l [1,0,1]) (.l [1,1])) rfl OL
   exact aU this (bL B e1)
  have g2:∀ {Q E},wp (bz .Eq v (.str "others")) Q E s=Q (.bool (decide (x=.gc))) s:=iM (Gx e2);simp only[w,aQ,gy,aI,aV,af,ak,am,aj,bU,bG,ax,ag,aL,ah,aA,ai,ao,aB,aZ,f,cz,gu,bp,g1,cN,aS,g2,cW];by_cases o:x=.gc
  ·simp only[bq o,aQ,c7,ae,aT,af,aq,ak,am,aj,br,aF,aG];have:cZ (c::b) given d=given:=by unfold cZ;erw[if_pos (by rw[CT,o])];rfl
   rw[this]at h;exact h
  ·simp only[bA o,aJ,c7,aM,aa,ae,bv,dU,aI,ax,ag,aL,ah,af,ak,am,aj,aA,ai,ao,aB,aZ,f,bU,aS,n4,w,aQ,gy,aV,bp];have H:(c::b).getLast? ≠some .gc:=by exact aU CT (λ z=>o (an z))
   rwa[ac (O 0 c rfl),L f1 f2];have g3:∀ {Q E},wp (cK (.ref a) (.int 0)) Q E s=Q (.tup [L,.int 0]) s:=bL (j:=0) B f1;have g4:∀ {Q E},wp (bz .IsNot L .none) Q E s=Q (.bool (!decide (c=.pos))) s:=fy (y5 f2);simp only[g3,bU,ag,bp,cN,aS,g4,cW];rcases hw.last H with hp|U
   ·have m:=hp c (.head _);subst m;have A:cZ (.pos::b) given d=some (eB given d,eB given d+(Ch.pos::b).length - 1):=by unfold cZ;erw[if_neg H];rfl
    rw[A,← u]at h;have Y:(!decide (Ch.pos=Ch.pos))=false:=rfl;simp only[decide_true,Bool.not_true,aJ,c7,aM,aa,ae,bv,aI,af,aq,ak,am,aj,bU,ag,aS]
    induction given with
    |none=>have i:∀ {Q E},wp (bz .IsNot .none .none) Q E s=Q (.bool false) s:=fy (r:=true) rfl;unfold hG at h ⊢;simp only[i,aJ,c7,aM,aa,ae,aT,bX,ah,af,aq,ak,am,aj,aA,bG,bU,ax,ag,aL,ai,ao,aB,aZ,f,cz,dp,gu,cJ,br,aF,aG];exact h
    |some g=>have i:∀ {Q E},wp (bz .IsNot (.tup [.int g.1,.int g.2]) .none) Q E s=Q (.bool true) s:=fy (r:=false) rfl;unfold hG du at h ⊢;simp only[i,aQ,c7,ae,az,aV,af,aq,ak,am,aj,bU,ag,bp,cN,aX,aO,aN,aa,aM,aT,bX,ah,aA,bG,ax,aL,ai,ao,aB,aZ,f,cz,dp,gu,cJ,br,aF,aG];exact h
   ·rwa[ac (U c (.head _)),rs m _];have A:cZ (c::b) given d=jv (bj (c::b)):=by unfold cZ;erw[if_neg H,m];rfl
    rw[A]at h;have Y:(!decide (c=Ch.pos))=true:=by erw[m];simp
    simp only[Y,aQ,c7,ae,aT,ax,ag,aL,ah,af,ak,am,aj,aA,ai,ao,aB];exact c21 zc (λ c m=>by exact ac (U c m) λ rs e _=>⟨rs,e⟩) h
end
noncomputable def cj(b:Rg)(p:Nat)(a:List Int)(i:Int):Option (List Int):=if b.1<=i/\i<=b.2/\(a[(i - b.1).toNat]?).getD 0<0 then some (a.set (i - b.1).toNat (p:Int))else none
noncomputable def cB(b:Rg)(p:Nat):List Int->List Int->Option (List Int)
 | [],a=>some a
 |i::r,a=>(cj b p a i).bind (cB b p r)
theorem dE(b:Rg)(p:Nat):∀ (x y:List Int) (a:List Int),cB b p (x++y) a=(cB b p x a).bind (cB b p y)
 | [],y,a=>rfl
 |i::x,y,a=>by
  show(cj b p a i).bind (cB b p (x++y))=((cj b p a i).bind (cB b p x)).bind (cB b p y)
  cases cj b p a i with
  |none=>rfl
  |some c=>exact dE b p x y c
theorem qJ:∀ {c:List Int} {a:List Int},(∃i∈c,¬ (b.1<=i/\i<=b.2))->cB b p c a=none
 | [],a,⟨i,h,_⟩=>bQ (h)
 |j::c,a,⟨i,h,e⟩=>by
  show(cj b p a j).bind (cB b p c)=none;generalize d:cj b p a j=f;induction f with
  |none=>rfl
  |some g=>
   rcases List.mem_cons.mp h with rfl|h
   ·unfold cj at d;rw[if_neg (λ z=>e ⟨z.1,z.2.1⟩)]at d;exact aD (d)
   ·exact qJ (aw i h e)
theorem jW:∀ {e:List Int} {c d:List Int},cB b p e c=some d->d.length=c.length
 | [],c,d,h=>by obtain rfl:=an (h);rfl
 |i::e,c,d,h=>by
  rwa[ac (Option.bind_eq_some_iff.mp h),g a f]
  erw[jW f]
  unfold cj at a
  split at a
  ·obtain rfl:=an (a);simp
  ·exact aD (a)
noncomputable def dK(l:List Rg):List Int:=l.flatMap λ r=>di r.1 (r.2+1)
theorem vt:x∈di a b↔a<=x/\x<b:=by
 unfold di;rw[List.mem_map]
 constructor
 ·rintro ⟨k,d,rfl⟩
  rw[List.mem_range]at d;exact vC (.e (.l Y0 (.a Y0 (.t W0))) (.p (.a Y0 (.t W0)) Y1)) [.j W0 W1,.o (.e (.l (.c 0) (.s Y1 Y0)) (.q (.t W1) (.s Y1 Y0))) (.e (.l (.s Y1 Y0) (.c 0)) (.k W1 (.c 0)))] (.s 0 (.l [1]) (.s 3 (.l [0,1,0,1,1]) (.l [0,1,0,0,1]))) rfl d (Mine.L.bO _)
 ·rintro ⟨f,g⟩
  exact(aw ((x - a).toNat) (by rw[List.mem_range];exact Ci (.j W0 W1) [.l Y0 Y1,.p Y1 Y2,.o (.e (.l (.c 0) (.s Y1 Y0)) (.q (.t W0) (.s Y1 Y0))) (.e (.l (.s Y1 Y0) (.c 0)) (.k W0 (.c 0))),.o (.e (.l (.c 0) (.s Y2 Y0)) (.q (.t W1) (.s Y2 Y0))) (.e (.l (.s Y2 Y0) (.c 0)) (.k W1 (.c 0)))] (.s 3 (.s 5 (.l [0,0,1,0,1,0,1,0,1]) (.l [1,0,0,1,0,0,0,0,1])) (.s 5 (.l [0,0,1,0,1,0,1,1,1]) (.l [1,0,0,0,0,0,0,1,1]))) rfl f g (Mine.L.bO _) (Mine.L.bO _)) (M7 f (Mine.L.bO _)))
theorem bS(a b:Int):(di a b).length=(b - a).toNat:=by simp [di]
section
variable{n:Nat}{Q:V->St->Prop}{E:Str->St->Prop}{s:St}
theorem Zx(A:s[f]?= some (.list (r.map .int)))(J:r.length=(b.2 - b.1+1).toNat)
  (h:∀B g,cj b p r i=some B→g[f]?= some (.list (B.map .int))→Kp [f] s g→g.length=s.length→Q .none g) (w:cj b p r i=none→E "constraint_error" s):
  pc (n+20) (.fn 23) [.ref f,du b,.int i,.int (p:Int)] Q E s:=by
 refine(ba (ρ:=[some (.ref f),some (du b),some (.int i),some (.int (p:Int)),none]) (by decide) rfl rfl).mpr ?_;unfold du;simp only[P2,ae,bv,qw,ug,aV,af,aq,ak,am,aj,bU,ag,bp,cN,xt,CA,ku];by_cases d:b.1<=i
 ·by_cases m:i<=b.2
  ·have y:(i - b.1).toNat<r.length:=by exact Ng (.j W0 W1) [.k W1 W2,.l Y0 Y1,.l Y1 Y2,.o (.e (.l (.c 0) (.s Y1 Y0)) (.q (.t W0) (.s Y1 Y0))) (.e (.l (.s Y1 Y0) (.c 0)) (.k W0 (.c 0))),.o (.e (.l (.c 0) (.a (.s Y2 Y0) (.c 1))) (.q (.t W2) (.a (.s Y2 Y0) (.c 1)))) (.e (.l (.a (.s Y2 Y0) (.c 1)) (.c 0)) (.k W2 (.c 0)))] (.s 4 (.s 6 (.l [0,0,1,0,1,0,1,0,1,0,1]) (.l [1,0,0,1,0,0,0,0,0,0,1])) (.s 6 (.l [0,0,1,0,1,0,1,0,1,1,1]) (.l [1,0,0,0,0,0,0,0,0,1,1]))) rfl J d m (Mine.L.bO _) (Mine.L.bO _)
   obtain ⟨x,v⟩:∃x,r[(i - b.1).toNat]?= some x:=⟨_,bT y⟩;have e:i - b.1=(((i - b.1).toNat:Nat):Int):=by exact yE (.q (.s Y0 Y1) (.t W0)) [.l Y1 Y0,.o (.e (.l (.c 0) (.s Y0 Y1)) (.q (.t W0) (.s Y0 Y1))) (.e (.l (.s Y0 Y1) (.c 0)) (.k W0 (.c 0)))] (.s 0 (.s 3 (.l [0,1,0,1]) (.l [0,1,0,1,1])) (.s 3 (.l [0,0,1,1]) (.l [1,0,0,1]))) rfl d (Mine.L.bO _)
   have H:∀ {Q E},wp (cK (.ref f) (.int (i - b.1))) Q E s=Q (.int x) s:=by intro Q E;exact aU e (bL A (by erw[cg,v];rfl))
   simp only[bq d,aQ,gy,aV,af,aq,ak,am,aj,bU,ag,bp,eP,aS,ku,bq m,k_not,Bool.not_true,aJ,c7,aM,aa,ae,bv,aI,bG,cN,cz,gu,H,Ke];by_cases u:0<=x
   ·simp only[bq u,aQ,c7,ae,cb,ax,ag,aL,ah,aA,ai,ao,aB];refine EN (w ?_);unfold cj;rw[if_neg];rw[v];exact λ z=>absurd z.2.2 (by simp;exact M6 u)
   ·simp only[bA u,aJ,c7,aM,aa,ae,fp,af,aq,ak,am,aj,lu,ls,bG,bU,aV,ag,bp,cN,cz,gu,nO];rwa[kC A (oA (.l (.c 0) (.s Y0 Y1)) [.l Y1 Y0] (.l [1,1]) rfl d) (by rw[bo];exact vC (.p (.s Y0 Y1) (.t W0)) [.j W1 W0,.q (.s Y0 Y1) (.t W1)] (.l [1,1,1]) rfl y e),g G k l];simp only[aP,aa,aM,fq];refine h _ g ?_ (by rw[G,List.map_set]) k l;unfold cj
    erw[if_pos (bN d m (by rw[v];simp;exact M5 u))];rfl
  ·simp only[bq d,aQ,gy,aV,af,aq,ak,am,aj,bU,ag,bp,eP,aS,ku,bA m,k_not,Bool.not_false,c7,ae,cb,ax,aL,ah,aA,ai,ao,aB];refine EN (w ?_);unfold cj;erw[if_neg (λ z=>m z.2.1)];rfl
 ·simp only[bA d,aJ,tI,k_not,Bool.not_false,aQ,c7,ae,cb,ax,ag,aL,ah,aA,ai,ao,aB];refine EN (w ?_);unfold cj;erw[if_neg (λ z=>d z.1)];rfl
theorem c25(hf:s[f]?= some (.list (z.map .int)))(ha:s[a]?= some (.list (l.map du)))(iI:a≠f)(dT:z.length=(b.2 - b.1+1).toNat)(vR:∀r∈l,dZ r)
  (h:∀g o,cB b p (dK l) z=some g→o[f]?= some (.list (g.map .int))→Kp [f] s o→Q .none o) (h':∀o,cB b p (dK l) z=none→Kp [f] s o→E "constraint_error" o):
  pc (n+40) (.fn 25) [.ref f,du b,.ref a,.int (p:Int)] Q E s:=by
 refine(ba (ρ:=[some (.ref f),some (du b),some (.ref a),some (.int (p:Int)),none,none,none,none,none,none]) (by decide) rfl rfl).mpr ?_;simp only[P0,ae]
 skip
 refine eQ ?_;simp only[af,aq,ak,am,aj,gL];refine(c9 a _ rfl ha ?_);refine eh (λ j w o=>∃O L d g,w=[some (.ref f),some (du b),some (.ref a),some (.int (p:Int)),O,L,d,none,none,none]/\cB b p (dK (l.take j)) z=some g/\o[f]?= some (.list (g.map .int))/\Kp [f] s o)
  (λ j w o YN=>by rwa[kT YN,_ _ _ _ _ _ _ k,-YN];exact k.at ha (by exact jh (iI))) (λ j v w o U hI A8 ma=>?_) (λ w o hI=>?_) _ 0 _ s (by exact Nat.zero_add _) (Nat.zero_le _) (me none none none z rfl rfl hf .refl)
 ·rwa[kT hI,O L d g bw H JB k];try clear hI;subst bw
  rw[cg]at U;generalize G:l[j]?= ZG;induction ZG with
  |none=>rw[G]at U;exact aD (U)
  |some r=>
   rw[G]at U;obtain rfl:=an (U);have oY:=List.mem_of_getElem? G;have xI:=(cw.mp G).1;rwa[aK (vR r oY),b7 cH];rwa[aK b7,s1 s2];try clear b7;rwa[aK cH,s3 s4,-cH]
   have tk:dK (l.take (j+1))=dK (l.take j)++di r.1 (r.2+1):=by rw[List.take_add_one,G];simp [dK]
   have whole:dK l=dK (l.take j)++(di r.1 (r.2+1)++dK (l.drop (j+1))):=by
    have e:l=l.take j++(r::l.drop (j+1)):=by rw[← (an ((bT xI).symm.trans G)),← List.drop_eq_getElem_cons xI,List.take_append_drop]
    conv=>lhs;rw[e]
    simp [dK]
   have fail:cB b p (di r.1 (r.2+1)) g=none->cB b p (dK l) z=none:=λ hh=>by rw[whole,dE,H];show cB b p _ g=none;rw[dE,hh];rfl
   have ua:=jW H;have run:pw ((SS (n+39)).ex [some (.ref f),some (du b),some (.ref a),some (.int (p:Int)),some (.int r.1),some (.int r.2),d,none,none,none]
     (.ek (.one 6) (.inr ((some (.v 4)),(.b .Add (.v 5) (.k (.int 1))))) [.e (.call (.k (.fn 23)) [(.v 0),(.v 1),(.v 6),(.v 3)])]))
     (λ x m=>x.1=.next/\∃d q,x.2=[some (.ref f),some (du b),some (.ref a),some (.int (p:Int)),some (.int r.1),some (.int r.2),d,none,none,none]/\cB b p (di r.1 (r.2+1)) g=some q/\m[f]?= some (.list (q.map .int))/\Kp [f] s m) E o:=by
    skip
    refine f0 ?_;simp only[pE,af,aq,ak,am,aj,bU,bG,ag,cz,dp,gf,cr (show -1000000<=r.1 by exact IR s1) (IQ s2),cr (show -1000000<=r.2+1 by exact IP s3) (IN s4),cP,iG];refine eM (xs:=di r.1 (r.2+1)) (λ i w m=>∃d q,w=[some (.ref f),some (du b),some (.ref a),some (.int (p:Int)),some (.int r.1),some (.int r.2),d,none,none,none]/\cB b p ((di r.1 (r.2+1)).take i) g=some q/\m[f]?= some (.list (q.map .int))/\Kp [f] s m)
     (λ i x w m t Y KA wN=>?_) (λ w m Y=>?_) _ 0 _ o (Nat.zero_add _) (gj d g rfl rfl JB k)
    ·rwa[dm Y,d q dy A pe k2];try clear Y;subst dy
     simp only[bt,aO,aN,cQ,ae,cb,ax,ag,aL,ah,af,ak,am,aj,aA,aq,ai,ao,aB];refine Zx pe (by erw[jW A,ua,dT];rfl) (λ Pw bf h3 f3 k3 l3=>?_) (λ h3=>?_)
     ·simp only[aP,aa,aM,be];refine wN _ _ (gj _ Pw rfl ?_ f3 (k2.trans k3));rw[List.take_add_one,t,dE,A];show(cj b p q x).bind _=_;rw[h3];rfl
     ·refine h' m (fail ?_) k2;have e:di r.1 (r.2+1)=(di r.1 (r.2+1)).take i++(x::(di r.1 (r.2+1)).drop (i+1)):=by have m7:=(cw.mp t).1;rw[← (an ((bT m7).symm.trans t)),← List.drop_eq_getElem_cons m7,List.take_append_drop]
      rw[e,dE,A];show(cj b p q x).bind _=_;exact aU h3 rfl
    ·rwa[dm Y,d q bw A pe k2];try clear Y;subst bw
     rw[List.take_length]at A;exact⟨rfl,d,q,rfl,A,pe,k2⟩
   have u:∀y m,(∃d q,y=[some (.ref f),some (du b),some (.ref a),some (.int (p:Int)),some (.int r.1),some (.int r.2),d,none,none,none]/\cB b p (di r.1 (r.2+1)) g=some q/\m[f]?= some (.list (q.map .int))/\Kp [f] s m)->
     ∃O L d g,y=[some (.ref f),some (du b),some (.ref a),some (.int (p:Int)),O,L,d,none,none,none]/\cB b p (dK (l.take (j+1))) z=some g/\m[f]?= some (.list (g.map .int))/\Kp [f] s m:=by
    rintro y m ⟨d,q,rfl,h1,h2,h3⟩
    exact(me _ _ d q rfl (by rw[tk,dE,H];exact h1) h2 h3)
   have bad:(r.1<=r.2/\(r.1<b.1∨b.2<r.2))->cB b p (di r.1 (r.2+1)) g=none:=fun⟨z1,J⟩=>by
    refine qJ ?_;rcases J with J|J
    ·exact(aw r.1 (vt.mpr ⟨Int.le_refl _,by exact oA (.p Y0 (.a Y1 (.c 1))) [.l Y0 Y1] (.l [1,1]) rfl z1⟩) (yF (.n (.e (.l Y0 Y1) (.l Y1 Y2))) [.p Y1 Y0] (.s 0 (.l [1,0,1]) (.l [1,0,1])) rfl J))
    ·exact(aw r.2 (vt.mpr ⟨z1,by exact ed (.p Y0 (.a Y0 (.c 1))) [] (.l [1]) rfl⟩) (yF (.n (.e (.l Y0 Y1) (.l Y1 Y2))) [.p Y2 Y1] (.s 0 (.l [0,1,1]) (.l [0,1,1])) rfl J))
   unfold du at run u ⊢;simp only[cD,bY,aO,aN,cQ,ae,bv,dU,aI,af,aq,ak,am,aj,bU,aS,ku];by_cases B:r.1<=r.2
   ·by_cases q2:r.1<b.1
    ·simp only[bq B,aQ,gy,eD,aI,af,aq,ak,am,aj,bU,aV,ag,bp,cN,aS,la,bq q2,tI,cW,c7,ae,cb,ax,aL,ah,aA,ai,ao,aB];exact EN (h' o (fail (bad ⟨B,.inl q2⟩)) k)
    ·by_cases q3:b.2<r.2
     ·simp only[bq B,aQ,gy,eD,aI,af,aq,ak,am,aj,bU,aV,ag,bp,cN,aS,la,bA q2,aJ,eP,n4,bq q3,cW,c7,ae,cb,ax,aL,ah,aA,ai,ao,aB];exact EN (h' o (fail (bad ⟨B,.inr q3⟩)) k)
     ·simp only[bq B,aQ,gy,eD,aI,af,aq,ak,am,aj,bU,aV,ag,bp,cN,aS,la,bA q2,aJ,eP,n4,bA q3,cW,c7,aM,aa,ae];rwa[Dw ((dL _).2 _ _).mono run,x m t];obtain ⟨fl,y⟩:=x;obtain ⟨rfl,t⟩:=t;simp only[aa,aM,be];exact ma _ _ ((u y m t))
   ·simp only[bA B,aJ,tI,c7,aM,aa,ae];rwa[Dw ((dL _).2 _ _).mono run,x m t];obtain ⟨fl,y⟩:=x;obtain ⟨rfl,t⟩:=t;simp only[aa,aM,be];exact ma _ _ ((u y m t))
 ·rwa[kT hI,O L d g ip H JB k];try clear hI;subst ip
  rw[bo,List.take_length]at H;simp only[aa,aM,fq];exact h g o H JB k
end
end
section
open PySem
set_option genInjectivity false
set_option genSizeOf false
noncomputable def cV:List Rg->Int->Int
 | [],a=>a
 |r::rs,a=>cV rs (a * fv r)
theorem tj(x y:List Rg)(a:Int):cV (x++y) a=cV y (cV x a):=by
 induction x generalizing a with
 |nil=>rfl
 |cons r x b=>exact b _
noncomputable def inR(b r:Rg):Bool:= !(decide (b.1<=b.2)&& (decide (b.1<r.1) || decide (r.2<b.2)))
noncomputable def gi:List Rg->List Rg->Bool
 |b::a,r::rs=>inR b r&&gi a rs
 |_,_=>true
structure wF where
 fs:List Int
 index:Int
 rest:Int
noncomputable def fR(b:Rg)(p:Nat)(st:wF):Ch->Option wF
 | .pos=>(cj b p st.fs st.index).map λ a=>⟨a,st.index+1,st.rest⟩
 | .gc=>some ⟨st.fs,st.index,p⟩
 | .eG l=>(cB b p (dK l) st.fs).map λ a=>⟨a,st.index,st.rest⟩
noncomputable def eE(b:Rg):List Ch->Nat->wF->Option wF
 | [],_,st=>some st
 |c::a,p,st=>(fR b p st c).bind (eE b a (p+1))
theorem fD(b:Rg):∀ (x y:List Ch) (p:Nat) (st:wF),eE b (x++y) p st=(eE b x p st).bind (eE b y (p+x.length))
 | [],y,p,st=>rfl
 |c::x,y,p,st=>by
  show(fR b p st c).bind (eE b (x++y) (p+1))=((fR b p st c).bind (eE b x (p+1))).bind _
  cases fR b p st c with
  |none=>rfl
  |some a=>show eE b (x++y) (p+1) a=(eE b x (p+1) a).bind _;rw[fD b x y (p+1) a,List.length_cons,Nat.add_assoc,Nat.add_comm 1]
theorem qL(h:cj b p a i=some c):c.length=a.length:=by
 unfold cj at h
 split at h
 ·obtain rfl:=an (h);simp
 ·exact aD (h)
theorem gQ:∀ {g:List Ch} {p:Nat} {st a:wF},eE b g p st=some a->a.fs.length=st.fs.length
 | [],p,st,a,h=>by obtain rfl:=an (h);rfl
 |c::g,p,st,a,h=>by
  rwa[ac (Option.bind_eq_some_iff.mp h),m d i]
  erw[gQ i]
  induction c with
  |pos=>rwa[ac (Option.map_eq_some_iff.mp d),f e j];subst j;exact qL e
  |gc=>obtain rfl:=an (d);rfl
  |eG l=>rwa[ac (Option.map_eq_some_iff.mp d),f e k];subst k;exact jW e
noncomputable def jH(b:Rg):Nat:=(b.2 - b.1+1).toNat
noncomputable def oM(b:List Int)(a:Int):Option (List Int):=if a<0/\∃x∈b,x<0 then none else some (b.map λ x=>if x<0 then a else x)
noncomputable def mP(a:List Ch)(b:Rg):Option (List Int):=(eE b a 0 ⟨List.replicate (jH b) (-1),b.1,-1⟩).bind λ st=>oM st.fs st.rest
section
variable{n:Nat}{Q:V->St->Prop}{E:Str->St->Prop}{s:St}
theorem Zz(o:∃m,s[b]?= some (.inst 81 m)/\m.lookup 57=some (.int 24))(p:s[a]?= some (.list (bs.map du)))(A0:∀j,j<=bs.length->iZ (cV (bs.take j) 1)=true)(U:∀r∈bs,iZ (fv r)=true)
  (h: ¬ cV bs 1 > 24→Q (.int (cV bs 1)) s) (G:cV bs 1 > 24→E "storage_error" s):pc (n+20) (.fn 17) [.ref a,.ref b] Q E s:=by
 rwa[ac o,m B A,-o];have H:∀ {Q E},wp (cM (.ref b) 57) Q E s=Q (.int 24) s:=dg B rfl A;refine(ba (ρ:=[some (.ref a),some (.ref b),none,none,none,none,none]) (by decide) rfl rfl).mpr ?_;simp only[P7,ae,az,ag,aX,aO,aN,aa]
 skip
 refine eQ ?_;simp only[af,ak,am,aj,gL];refine(c9 a _ rfl p ?_);refine eh (λ j g i=>i=s/\∃l k,g=[some (.ref a),some (.ref b),some (.int (cV (bs.take j) 1)),l,k,none,none]) (λ j g i w=>by rwa[aK w,e _,-w];exact aU e p) (λ j v g i c f A8 y=>?_) (λ g i f=>?_) _ 0 _ s (by exact Nat.zero_add _) (Nat.zero_le _) ⟨rfl,none,none,rfl⟩
 ·rwa[aK f,O u];try clear f;subst O;rwa[d9 u,l k L];try clear u;subst L
  rw[cg]at c;generalize d:bs[j]?= Y;induction Y with
  |none=>rw[d]at c;exact aD (c)
  |some r=>
   rw[d]at c;obtain rfl:=an (c);have x:=(cw.mp d).1;unfold du;simp only[cD,bY,aO,aN,cQ,ae,az,bG,af,aq,ak,am,aj,bU,ax,ag,aL,ah,aA,ai,ao,aB];refine c16 ?_;simp only[cz,QH (A0 j (Nat.le_of_lt x)) (show iZ (if r.2 - r.1+1<0 then 0 else r.2 - r.1+1)=true from U r (List.mem_of_getElem? d)),aX,aO,aN,aa,aM,be];have:cV (bs.take (j+1)) 1=cV (bs.take j) 1 * (if r.2 - r.1+1<0 then 0 else r.2 - r.1+1):=by rw[List.take_add_one,d,tj];rfl
   exact y _ _ ⟨rfl,_,_,by rw[this]⟩
 ·rwa[aK f,J t];try clear f;subst J;rwa[d9 t,l k z];try clear t;subst z
  rw[bo,List.take_length];simp only[aa,ae,bv,aI,af,aq,ak,am,aj,bU,bF,ci,H,aS,n4];by_cases q:(24:Int)<cV bs 1
  ·simp only[bq q,aQ,c7,ae,pB,ag,tH];exact G q
  ·simp only[bA q,aJ,c7,aM,aa,ae,aT,af,aq,ak,am,aj,br,aF,aG];exact h q
theorem Zy(ha:s[a]?= some (.list (bs.map du)))(hc:s[c]?= some (.list (rs.map du)))(d:bs.length=rs.length)(hs:bs.length<=1000)
  (h:gi bs rs=true→Q .none s) (h':gi bs rs=false→E "constraint_error" s):pc (n+20) (.fn 20) [.ref a,.ref c] Q E s:=by
 have gl:∀ {Q E},wp (iu .len [.ref a]) Q E s=Q (.int (bs.length:Int)) s:=by intro Q E;rw[len_list ha,bo]
 refine(ba (ρ:=[some (.ref a),some (.ref c),none,none,none,none,none,none,none,none]) (by decide) rfl rfl).mpr ?_;simp only[P6,ae]
 skip
 refine f0 ?_;simp only[dJ,ax,ag,aL,ah,af,ak,am,aj,aA,ai,ao,aB,aZ,gl,gf,cr (show -1000000<= (0:Int)by decide) (by decide),cr (show -1000000<= (bs.length:Int)by exact B7) (mF (.l (.t W0) (.c 1000000)) [.i W0 (.c 1000)] (.l [1,1]) rfl hs),cP,iG];have y:∀ (bs rs:List Rg) (j:Nat),bs.length=rs.length->gi (bs.take j) (rs.take j)=true->∀b r,bs[j]?= some b->rs[j]?= some r->inR b r=false->gi bs rs=false:=by
  intro bs
  induction bs with
  |nil=>intro rs j _ _ b r h;exact aD (h)
  |cons b0 bs ih=>
   intro rs j d f b r m g p
   induction rs with
   |nil=>exact nomatch d
   |cons r0 rs=>
    induction j with
    |zero=>obtain rfl:=an (m);obtain rfl:=an (g);simp [gi,p]
    |succ j=>simp only[List.take_succ_cons,gi,Bool.and_eq_true]at f ⊢;rw[ih rs j (by simpa using d) f.2 b r m g p,Bool.and_false]
 have Cv:∀ (bs rs:List Rg) (j:Nat),bs.length=rs.length->gi (bs.take j) (rs.take j)=true->∀b r,bs[j]?= some b->rs[j]?= some r->inR b r=true->gi (bs.take (j+1)) (rs.take (j+1))=true:=by
  intro bs
  induction bs with
  |nil=>intro rs j _ _ b r h;exact aD (h)
  |cons b0 bs ih=>
   intro rs j d f b r m g p
   induction rs with
   |nil=>exact nomatch d
   |cons r0 rs=>
    induction j with
    |zero=>obtain rfl:=an (m);obtain rfl:=an (g);simp [gi,p]
    |succ j=>simp only[List.take_succ_cons,gi,Bool.and_eq_true]at f ⊢;exact⟨f.1,ih rs j (by simpa using d) f.2 b r m g p⟩
 refine eM (xs:=di 0 (bs.length:Int)) (λ j G u=>u=s/\gi (bs.take j) (rs.take j)=true/\∃Y U O J H,G=[some (.ref a),some (.ref c),Y,U,O,J,H,none,none,none])
  (λ j x G u p z KA wN=>?_) (λ G u z=>?_) _ 0 _ s (Nat.zero_add _) (bN rfl (by rcases bs with ⟨⟩<;> rfl) ⟨_,_,_,_,_,rfl⟩)
 ·rwa[cA z,iB f d8];try clear z;subst iB;rwa[Gs d8,Y U O J H fu];try clear d8;subst fu
  have xI:=(cw.mp p).1;rw[bS]at xI;have B:j<bs.length:=by exact jI (.j W0 W1) [.j W0 W2,.o (.e (.l (.c 0) (.s (.t W1) (.c 0))) (.q (.t W2) (.s (.t W1) (.c 0)))) (.e (.l (.s (.t W1) (.c 0)) (.c 0)) (.k W2 (.c 0)))] (.s 2 (.l [0,1,0,1,1]) (.l [0,1,0,0,1])) rfl xI (Mine.L.bO _)
  have za:x=(j:Int):=by have:=(cw.mp p).2;unfold di at this;simp at this;exact kJ (.q Y0 (.t W0)) [.q (.t W0) Y0] (.s 0 (.l [1,1]) (.l [1,0,1])) rfl this
  subst za;have m:bs[j]?= some bs[j]:=bT B;have g:rs[j]?= some (rs[j]'(Fw d B)):=bT (Fw d B);generalize bs[j]=b at m;generalize rs[j]'(Fw d B)=r at g;have g1:∀ {Q E},wp (cK (.ref a) (.int (j:Int))) Q E u=Q (.tup [.int b.1,.int b.2]) u:=bL ha (by erw[cg,m];rfl);have g2:∀ {Q E},wp (cK (.ref c) (.int (j:Int))) Q E u=Q (.tup [.int r.1,.int r.2]) u:=bL hc (by erw[cg,g];rfl);simp only[bt,aO,aN,cQ,ae,iE,aV,af,ak,am,aj,bU,aq,bp,g1,qd,bY,vE,aa,g2,bv,dU,aI,aS,ku];by_cases v:b.1<=b.2
  ·by_cases w:b.1<r.1
   ·simp only[bq v,aQ,gy,eD,aI,af,aq,ak,am,aj,bU,aS,la,bq w,tI,cW,c7,ae,cb,ax,ag,aL,ah,aA,ai,ao,aB];exact EN (h' (y bs rs j d f b r m g (by simp [inR,v,w])))
   ·by_cases A:r.2<b.2
    ·simp only[bq v,aQ,gy,eD,aI,af,aq,ak,am,aj,bU,aS,la,bA w,aJ,n4,bq A,cW,c7,ae,cb,ax,ag,aL,ah,aA,ai,ao,aB];exact EN (h' (y bs rs j d f b r m g (by simp [inR,v,A])))
    ·simp only[bq v,aQ,gy,eD,aI,af,aq,ak,am,aj,bU,aS,la,bA w,aJ,n4,bA A,cW,c7,aM,aa,be];exact wN _ _ (bN rfl (Cv bs rs j d f b r m g (by simp [inR,w,A])) ⟨_,_,_,_,_,rfl⟩)
  ·simp only[bA v,aJ,tI,c7,aM,aa,be];exact wN _ _ (bN rfl (Cv bs rs j d f b r m g (by simp [inR,v])) ⟨_,_,_,_,_,rfl⟩)
 ·rwa[cA z,fZ f gm];try clear z;subst fZ;rwa[Gs gm,Y U O J H iJ];try clear gm;subst iJ
  simp only[aa,aM,fq];refine h ?_;have e:(di 0 (bs.length:Int)).length=bs.length:=by rw[bS];exact iA (.k W0 W1) [.o (.e (.l (.c 0) (.s (.t W1) (.c 0))) (.q (.t W0) (.s (.t W1) (.c 0)))) (.e (.l (.s (.t W1) (.c 0)) (.c 0)) (.k W0 (.c 0)))] (.s 0 (.s 2 (.l [0,0,1,1]) (.l [1,0,0,1])) (.s 2 (.l [0,1,0,1]) (.l [0,1,0,1]))) rfl (Mine.L.bO _)
  rw[e,List.take_length,d,List.take_length]at f;exact f
end
end
section
open PySem
noncomputable def oL(a x:Int):Int:=if x<0 then a else x
theorem cS{a b x:Int}{j:Nat}(h:(di a b)[j]?= some x):x=a+(j:Int)/\(j:Int)<b - a:=by have d:=(cw.mp h).1;rw[bS]at d;unfold di at h;rw[cg,List.getElem?_range d]at h;have:=an h;exact⟨this.symm,by exact vC (.p (.t W0) (.s Y0 Y1)) [.j W0 W1,.o (.e (.l (.c 0) (.s Y0 Y1)) (.q (.t W1) (.s Y0 Y1))) (.e (.l (.s Y0 Y1) (.c 0)) (.k W1 (.c 0)))] (.s 2 (.l [0,1,0,1,1]) (.l [0,1,0,0,1])) rfl d (Mine.L.bO _)⟩
section
variable{n:Nat}{Q:V->St->Prop}{E:Str->St->Prop}{s:St}
theorem qQ.kp(h:qQ s a r)(k:Kp W s s')(g:∀b e,s[b]?= some (.list e)->b∉W):qQ s' a r:=by
 rwa[bR h,e j p o,-h];refine(cR e (k.at j (g _ _ j)) p (λ i c m=>?_));rwa[ac (o i c m),v q d];refine(aw v q ?_)
 induction c with
 |pos=>exact d
 |gc=>exact d
 |eG l=>rwa[ac d,b t f];try clear d;subst t;exact(aw b rfl (k.at f (g _ _ f)))
theorem c24{a G:Nat}{m:List Ch}{b:Rg}(hl:∃fs,s[G]?= some (.inst 81 fs)/\fs.lookup 57=some (.int 24))(ht:qQ s a m)(hb:dZ b)(uc:m.length<=200)(vR:∀l,.eG l∈m->∀r∈l,dZ r)
  (h1:fv b > 24→∀f,Kp [] s f→E "storage_error" f) (h2: ¬ fv b > 24→mP m b=none→∀f,Kp [] s f→E "constraint_error" f)
  (h3: ¬ fv b > 24->∀row f a',mP m b=some row->f[a']?= some (.list (row.map .int))->Kp [] s f->s.length<=a'->Q (.ref a') f):
  pc (n+60) (.fn 24) [du b,.ref a,.ref G] Q E s:=by
 rwa[aK hb,b7 cH];try clear hb;rwa[aK b7,b1 b2];try clear b7;rwa[aK cH,b3 b4,-cH]
 refine(ba (ρ:=[some (du b),some (.ref a),some (.ref G),none,none,none,none,none,none,none,none,none,none,none,none,none]) (by decide) rfl rfl).mpr ?_;simp only[P1,ae,az,bG,bx,ah,nV,ag,su,sg,aA,ai,ao,b8];rwa[bk (by decide),ay f1 k1 l1];simp only[bU,ax,ag,aL,ah,bx,af,ak,am,aj,aA,ai,ao,b8];rwa[bk (by simp),H f2 U l2];simp only[aA,ah,af,aq,ak,am,aj,ai,ao,aB];rwa[ac hl,fsl e1 e2,-hl];have ky:=k1.trans U;have dl:0<=fv b/\fv b<=1000000:=by rw[fi];exact yE (.e (.l (.c 0) (.t W0)) (.l (.t W0) (.c 1000000))) [.l (.g (.c 1000)) Y0,.l Y1 (.c 1000),.o (.e (.l (.c 0) (.a (.s Y1 Y0) (.c 1))) (.q (.t W0) (.a (.s Y1 Y0) (.c 1)))) (.e (.l (.a (.s Y1 Y0) (.c 1)) (.c 0)) (.k W0 (.c 0)))] (.s 0 (.l [1]) (.s 4 (.l [0,1,0,1,1,1]) (.l [0,1,0,1]))) rfl b1 b4 (Mine.L.bO _)
 refine Zz (bs:=[b]) (aw fsl (ky.bM e1) e2) f2 (λ j hj=>?_) (λ r hr=>?_) (λ hq=>?_) (λ hq=>?_)
 ·match j,hj with
  |0,_=>rfl
  |1,_=>show iZ (1 * fv b)=true;rw[Int.one_mul];exact cr (by exact M4 dl) dl.2
 ·rw[dF]at hr;subst hr;exact cr (by exact M4 dl) dl.2
 ·have J: ¬ fv b > 24:=by have:cV [b] 1=1 * fv b:=rfl;rw[this,Int.one_mul]at hq;exact hq
  have e0:cV [b] 1=fv b:=by show 1 * fv b=_;rw[Int.one_mul]
  erw[e0]
  rwa[Be (U.bM f1) dl.1 (by exact ed (.l Y0 (.c 1000)) [.n (.p (.c 24) Y0)] (.l [1,1]) rfl J),bf f3 k3 l3];have uE:=ky.trans k3;have n0:(fv b).toNat=jH b:=by rw[fi];rfl
  rw[n0]at f3;rwa[bR ht,vs ha dT hv,-ht];obtain ⟨N,hN⟩:∃N,N=m.length:=⟨_,rfl⟩;have gl:∀ {f},f[a]?= some (.list vs)->∀ {Q E},wp (iu .len [.ref a]) Q E f=Q (.int (N:Int)) f:=by intro f h Q E;erw[len_list h,dT,hN];rfl
  have YE:=uE.bM ha;unfold du;simp only[aX,aO,aN,aa,ae,az,aV,af,ak,am,aj,bU,ag,bp,cN,nV,su,sg]
  skip
  refine f0 ?_;simp only[dJ,ax,ag,aL,ah,af,aq,ak,am,aj,aA,ai,ao,aB,aZ,gl YE,gf,cr (show -1000000<= (0:Int)by decide) (by decide),cr (show -1000000<= (N:Int)by exact B7) (by exact iA (.l (.t W0) (.c 1000000)) [.i W1 (.c 200),.k W0 W1] (.l [1,1,1]) rfl uc hN),cP,iG];have UL:∀ {d:Nat} {o:d4},s[d]?= some o->d≠H.length:=λ h=>by have:=bD h;exact wO (.n (.k W0 W1)) [.k W2 (.a W3 (.c 1)),.k W1 (.a W2 (.c 1)),.j W0 W3] (.s 0 (.l [0,1,0,1,0,1,1]) (.l [0,1,0,1,0,1,1])) rfl l1 l2 this
  refine eM (xs:=di 0 (N:Int)) (λ i Y f=>∃x6 x7 st,Y=[some (.tup [.int b.1,.int b.2]),some (.ref a),some (.ref G),some (.ref H.length),some (.int st.index),some (.int st.rest),x6,x7,none,none,none,none,none,none,none,none]/\
   eE b (m.take i) 0 ⟨List.replicate (jH b) (-1),b.1,-1⟩=some st/\f[H.length]?= some (.list (st.fs.map .int))/\Kp [H.length] bf f)
   (λ i x Y f w hI A8 ma=>?_) (λ Y f hI=>?_) _ 0 _ bf (Nat.zero_add _) (gM none none _ rfl rfl (by erw[f3];simp) .refl)
  ·rwa[ig hI,x6 x7 st dy hc hf k];try clear hI;obtain rfl:=dy
   rwa[aK (cS w),Jh hi];rw[Int.zero_add]at Jh;subst Jh;have zi:i<m.length:=by exact EC hN hi
   have vV:=bT zi;generalize m[i]=c at vV;rwa[ac (hv i c vV),v q1 B];have JH:=k.at YE (by exact jh (UL ha));have g1:∀ {Q E},wp (cK (.ref a) (.int (i:Int))) Q E f=Q (.tup [v,.int (i:Int)]) f:=bL JH q1;have Rp:oj f c v:=by
    induction c with
    |pos=>exact B
    |gc=>exact B
    |eG l=>rwa[ac B,d eK u];try clear B;obtain rfl:=eK;exact(aw d rfl (k.at (uE.bM u) (by exact jh (UL u))))
   have g2:∀ {Q E},wp (bz .Is v .none) Q E f=Q (.bool (decide (c=.pos))) f:=gt (y5 Rp);have g3:∀ {Q E},wp (bz .Eq v (.str "others")) Q E f=Q (.bool (decide (c=.gc))) f:=iM (Gx Rp);have Ao:st.fs.length=jH b:=by erw[gQ hc];simp
   have O:eE b (m.take (i+1)) 0 ⟨List.replicate (jH b) (-1),b.1,-1⟩=fR b i st c:=by
    rw[List.take_add_one,vV,fD,hc];show eE b [c] (0+(m.take i).length) st=_;rw[List.length_take,Nat.zero_add,Nat.min_eq_left (Nat.le_of_lt zi)];show(fR b i st c).bind (eE b [] (i+1))=_
    cases fR b i st c<;> rfl
   have fail:fR b i st c=none->mP m b=none:=λ hh=>by have e:m=m.take (i+1)++m.drop (i+1):=(List.take_append_drop _ _).symm;unfold mP;rw[e,fD,O,hh];rfl
   simp only[bt,aO,aN,cQ,ae,az,aV,af,aq,ak,am,aj,bU,bp,g1,ag,cN,aX,aa,bv,aI,aS,g2]
   induction c with
   |pos=>
    simp only[decide_true,aQ,c7,ae,cb,ax,ag,aL,ah,af,aq,ak,am,aj,aA,ai,ao,aB];refine Zx (b:=b) hf (by exact aU Ao rfl) (λ ef A zl WG k' l'=>?_) (λ zl=>?_)
    ·simp only[aP,aa,ae,w7,aq,ak,am,sU,CE,ag,cz,dp,aX,aO,aN,aM,be];exact ma _ _ (gM _ _ ⟨ef,st.index+1,st.rest⟩ rfl (by erw[O];simp [fR,zl]) WG (k.trans k'))
    ·exact h2 J (fail (by simp [fR,zl])) f (uE.gG k (by intro d u;rw[dF]at u;subst u;right;exact z6 l1 l2))
   |gc=>simp only[bA (show ¬Ch.gc=Ch.pos from nofun),aJ,c7,ae,bv,aI,af,aq,ak,am,aj,bU,ag,aS,g3,decide_true,aQ,az,aX,aO,aN,aa,aM,be];exact ma _ _ (gM _ _ ⟨st.fs,st.index,i⟩ rfl (by exact aU O rfl) hf k)
   |eG l=>
    rwa[ac Rp,d fO u];try clear Rp;obtain rfl:=fO
    rwa[ac B,d' Oz sC,-B];obtain rfl:=V.ref.inj (Oz);simp only[bA (show ¬Ch.eG l=Ch.pos from nofun),aJ,c7,ae,bv,aI,af,aq,ak,am,aj,bU,ag,aS,g3,bA (show ¬Ch.eG l=Ch.gc from nofun),cb,ax,aL,ah,aA,ai,ao,aB];refine c25 (b:=b) hf u (UL sC) (by exact aU Ao rfl) (vR l (List.mem_of_getElem? vV)) (λ ef A zl WG k'=>?_) (λ A zl k'=>?_)
    ·simp only[aP,aa,aM,be];exact ma _ _ (gM _ _ ⟨ef,st.index,st.rest⟩ rfl (by erw[O];simp [fR,zl]) WG (k.trans k'))
    ·exact h2 J (fail (by simp [fR,zl])) A (uE.gG (k.trans k') (by intro d u;rw[dF]at u;subst u;right;exact z6 l1 l2))
  ·rwa[ig hI,x6 x7 st gU hc hf k];try clear hI;obtain rfl:=gU
   have eN:(di 0 (N:Int)).length=m.length:=by rw[bS];exact Hm hN (Mine.L.bO _)
   rw[eN,List.take_length]at hc;have Ao:st.fs.length=jH b:=by erw[gQ hc];simp
   have qk:mP m b=oM st.fs st.rest:=by unfold mP;exact aU hc rfl
   have Ir:jH b<=24:=by rw[fi]at J;show(b.2 - b.1+1).toNat<=24;exact Hl J
   obtain ⟨L,hL⟩:∃L,L=st.fs.length:=⟨_,rfl⟩;have Ww:∀ {Q E},wp (iu .len [.ref H.length]) Q E f=Q (.int (L:Int)) f:=by intro Q E;rw[len_list hf,bo,hL]
   simp only[aa,ae]
   skip
   refine f0 ?_;simp only[dJ,ax,ag,aL,ah,af,aq,ak,am,aj,aA,ai,ao,aB,aZ,Ww,gf,cr (show -1000000<= (0:Int)by decide) (by decide),cr (show -1000000<= (L:Int)by exact B7) (by exact jI (.l (.t W0) (.c 1000000)) [.k W1 W2,.i W2 (.c 24),.k W0 W1] (.l [1,1,0,1,1]) rfl Ao Ir hL),cP,iG];refine eM (xs:=di 0 (L:Int)) (λ j Y A=>∃x8,Y=[some (.tup [.int b.1,.int b.2]),some (.ref a),some (.ref G),some (.ref H.length),some (.int st.index),some (.int st.rest),x6,x7,x8,none,none,none,none,none,none,none]/\
    (st.rest<0->∀x∈st.fs.take j,¬ x<0)/\A[H.length]?= some (.list (((st.fs.take j).map (oL st.rest)++st.fs.drop j).map .int))/\Kp [H.length] bf A)
    (λ j x Y A w hJ KA wN=>?_) (λ Y A hJ=>?_) _ 0 _ f (Nat.zero_add _) (dP none rfl (by simp) (by simpa using hf) k)
   ·rwa[dR hJ,x8 ip hr pe U];try clear hJ;obtain rfl:=ip
    rwa[aK (cS w),za hj];rw[Int.zero_add]at za;subst za;have xI:j<st.fs.length:=by exact EC hL hj
    have AZ:=bT xI;have lM:=List.drop_eq_getElem_cons xI;generalize st.fs[j]=y at AZ lM;have vS:((st.fs.take j).map (oL st.rest)).length=j:=by rw[bo,List.length_take];exact jI (.k W0 W1) [.j W1 W2,.o (.e (.i W1 W2) (.k W0 W1)) (.e (.i W2 W1) (.k W0 W2))] (.s 0 (.s 3 (.l [0,0,1,1]) (.l [0,0,1,1,1])) (.s 3 (.l [0,1,0,1]) (.l [1,0,0,0,1]))) rfl xI (Mine.L.vr _ _)
    have zm:((st.fs.take j).map (oL st.rest)++st.fs.drop j)[j]?= some y:=by
     rw[List.getElem?_append_right (by exact Fv vS),vS,Nat.sub_self,lM];rfl
    have g1:∀ {Q E},wp (cK (.ref H.length) (.int (j:Int))) Q E A=Q (.int y) A:=bL pe (by erw[cg,zm];rfl);have O:(st.fs.take (j+1))=st.fs.take j++[y]:=by erw[List.take_add_one,AZ];rfl
    simp only[bt,aO,aN,cQ,ae,bv,aI,aV,af,aq,ak,am,aj,bU,bp,g1,ag,aS,la];by_cases q:y<0
    ·simp only[bq q,aQ,c7,ae,bv,aI,af,aq,ak,am,aj,bU,ag,aS,la];by_cases B:st.rest<0
     ·simp only[bq B,aQ,c7,ae,cb,ax,ag,aL,ah,aA,ai,ao,aB];refine EN (h2 J ?_ A (uE.gG U (by intro d u;rw[dF]at u;subst u;right;exact z6 l1 l2)))
      erw[qk]
      unfold oM;rw[if_pos ⟨B,y,List.mem_of_getElem? AZ,q⟩]
     ·simp only[bA B,aJ,c7,aM,aa,ae,fp,af,aq,ak,am,aj,lu,ls,nO];rwa[kC pe (by exact B8) (by rw[bo,List.length_append,vS,List.length_drop];exact jI (.p (.t W0) (.t (.a W0 W1))) [.j W0 W2,.o (.e (.i W0 W2) (.k (.a W1 W0) W2)) (.e (.i W2 W0) (.k W1 (.c 0)))] (.s 2 (.l [0,0,1,1,1]) (.l [1,0,0,0,1])) rfl xI (Mine.L.uT _ _)),bK f4 k4 l4];simp only[aP,aa,aM,be];refine wN _ _ (dP _ rfl (λ z=>absurd z B) ?_ (U.trans k4))
      erw[f4,O]
      congr 2
      rw[show(V.int st.rest)=V.int (oL st.rest y)from by unfold oL;erw[if_pos q];rfl,← List.map_set,Int.toNat_natCast]
      congr 1
      rw[List.set_append_right _ _ (by exact Fv vS),vS,Nat.sub_self,lM];simp
    ·simp only[bA q,aJ,c7,aM,aa,be];refine wN _ _ (dP _ rfl (λ z x w=>?_) ?_ U)
     ·rw[O]at w;rcases List.mem_append.mp w with w|w
      ·exact hr z x w
      ·rw[dF]at w;subst w;exact q
     ·erw[pe,O,lM]
      have:oL st.rest y=y:=by unfold oL;erw[if_neg q];rfl
      simp [this]
   ·rwa[dR hJ,x8 iB hr pe U];try clear hJ;obtain rfl:=iB
    have eL:(di 0 (L:Int)).length=st.fs.length:=by rw[bS];exact Hm hL (Mine.L.bO _)
    rw[eL,List.take_length]at hr pe;rw[List.drop_length,List.append_nil]at pe;simp only[aa,ae,aT,af,aq,ak,am,aj,br,aF,aG];refine h3 J (st.fs.map (oL st.rest)) A _ ?_ pe (uE.gG U (by intro d u;rw[dF]at u;subst u;right;exact z6 l1 l2)) (by exact z6 l1 l2)
    erw[qk]
    unfold oM
    erw[if_neg (λ YL=>by rwa[aK YL,z bw];try clear YL;rwa[ac bw,x w o9,-bw];exact hr z x w o9)];rfl
 ·have J:fv b > 24:=by have:cV [b] 1=1 * fv b:=rfl;rw[this,Int.one_mul]at hq;exact hq
  exact h1 J H ky
end
noncomputable def cF(a:List Int)(p:Nat):List Nat:=(List.range a.length).filter λ k=>a[k]?== some (p:Int)
section
variable{ν α:Type}
noncomputable def dO(c:ν->Except Str α×List Int)(b:ν):List Nat->List (Option α)->Except Str (List (Option α))×List Int
 | [],a=>(.ok a,[])
 |k::d,a=>match c b with
  |(.error w,l)=>(.error w,l)
  |(.ok v,l)=>((dO c b d (a.set k (some v))).1,l++(dO c b d (a.set k (some v))).2)
noncomputable def bB(d:ν->Except Str α×List Int)(b:List Int):List ν->Nat->List (Option α)->Except Str (List (Option α))×List Int
 | [],_,c=>(.ok c,[])
 |e::r,p,c=>match dO d e (cF b p) c with
  |(.error w,l)=>(.error w,l)
  |(.ok a,l)=>((bB d b r (p+1) a).1,l++(bB d b r (p+1) a).2)
noncomputable def nu(c:St->V->α->Prop)(s:St)(b:List V)(a:List (Option α)):Prop:=
 b.length=a.length/\∀ (k:Nat) (x:Option α),a[k]?= some x->∃v,b[k]?= some v/\match x with|none=>v=.none|some r=>c s v r
end
noncomputable def qO:List S:=[.ez (.c .Lt (.b .Add (.v 4) (.k (.int 1))) (.call (.k (.bi .len)) [(.t (.v 1) 16)])) [.dc (.v 6) (.v 8) (.call (.k (.fn 74)) [(.v 0),(.v 1),(.i (.v 10) (.k (.int 3))),(.v 3),(.b .Add (.v 4) (.k (.int 1)))])] [.dc (.v 6) (.v 8) (.call (.k (.fn 60)) [(.t (.v 1) 17),(.call (.k (.fn 62)) [(.v 0),(.v 10)])])]]
noncomputable def kS(r t g:Nat)(h:V)(c:Int)(d f e:Nat)(b a i:Option V):Env:=
 [some (.ref r),some (.ref t),some (.ref g),some h,some (.int c),some (.ref d),some (.ref f),some (.ref e),b,a,i,none,none,none,none,none]
section
variable{ν α:Type}{n:Nat}{Q:V->St->Prop}{E:Str->St->Prop}{s:St}
theorem pI(a:List Int)(p j:Nat):((List.range (j+1)).filter λ k=>a[k]?== some (p:Int))=((List.range j).filter λ k=>a[k]?== some (p:Int))++(if a[j]?= some (p:Int)then [j]else []):=by
 rw[List.range_succ,List.filter_append]
 congr 1
 by_cases q:a[j]?= some (p:Int)
 ·rw[if_pos q];simp [q]
 ·rw[if_neg q];simp [q]
theorem J5(L:s[pa]?= some (.list H))(J:(g[2]?).getD none=some (.ref pa))(hl:H.length<=1000)
  (h:∀e (d:List Nat) q,e[q]?= some (.list (d.map V.ref))->d.length=H.length->d.Nodup->(∀a∈d,s.length<=a/\a≠q/\e[a]?= some (.list []))->s.length<=q->Kp [] s e->Q (.ref q) e):
  pw ((SS (n+10)).ev g (.comp [none,none] (.l []) [((.one 1),(.inl (.v 2)),[])])) Q E s:=by
 erw[fJ,kb,af,J]
 show pw (sf _) _ E s;refine fB (eO L (en fH (λ i o g e=>(∃G,g=[none,G])/\Kp [] s e/\∃d:List Nat,o=d.map V.ref/\d.length=i/\d.Nodup/\∀a∈d,s.length<=a/\a<e.length/\e[a]?= some (.list [])) (λ i o g e YK=>by rwa[cA YK,_ k _,-YK];exact k.bM L)
  (λ i o v g e J p=>?_) _ 0 [] _ s (by exact Nat.zero_add _) (Nat.zero_le _) (bN ⟨none,rfl⟩ .refl ⟨[],rfl,rfl,List.nodup_nil,λ a h=>bQ (h)⟩) λ x e p=>?_))
 ·rwa[cA p,bw k b7];try clear p;rwa[aW bw,G cH];try clear bw;subst cH;rwa[dR b7,d dy t B r];try clear b7;subst dy
  simp only[fF,bt,aO,aN,ie,eJ,fG,jm,bx,ai,b8];rwa[bk (by simp),ay A m z];refine(bN ⟨_,rfl⟩ (k.trans m) ⟨d++[e.length],by simp,by simp [t],?_,λ a f=>?_⟩)
  ·rw[List.nodup_append];refine(bN B (by simp) (λ a f b O=>?_));rw[dF]at O;subst O;have:=(r a f).2.1;exact AW this
  ·rcases List.mem_append.mp f with f|f
   ·exact cA (r a f) λ y w u=>(bN y (jI (.j W0 W1) [.k W1 (.a W2 (.c 1)),.j W0 W2] (.l [1,0,1,1]) rfl z w) (m.bM u))
   ·rw[dF]at f;subst f;exact(bN k.1 (zZ z) A)
 ·rwa[cA p,_ k U];try clear p;rwa[dR U,d Y t B r,-U]
  rw[List.nil_append]at Y
  erw[m3,Y]
  exact bk (by rw[bo,t];exact mF (.i W0 (.c 1000000)) [.i W0 (.c 1000)] (.l [1,1]) rfl hl) λ ay A m z=>h ay d _ A t B (λ a f=>by exact cA (r a f) λ y w u=>(bN y (AW w) (m.bM u))) k.1 (k.trans m)
theorem c72{r t pa sp told:Nat}{gv:V}{uo:Int}{lg:List Int}{row:List Int}{nodes:List ν}{us:List V}{vs:List V}{ev:ν->Except Str α×List Int}{VR:Nat->St->V->α->Prop}
  (hp:s[pa]?= some (.list vs)) (zb:vs.length=nodes.length) (Jl:us.length=nodes.length) (Oe:∀ (p:Nat) (u:V),us[p]?= some u->∃c,vs[p]?= some (.tup [c,u])) (RD:s[sp]?= some (.list (row.map .int)))
  (ht:Tl s told lg) (CY:pa≠told) (NQ:sp≠told) (hl:nodes.length<=100) (hr:row.length<=100) (qk:∀x∈row,0<=x/\x<nodes.length)
  (EK:∀lo H aH v a W,VR lo H v a->Kp W H aH->(∀b∈W,b<lo)->VR lo aH v a)
  (V1:∀ (p k:Nat) (B:ν) (u:V) (m:St) (f pl lo:Nat) (Y:List V) (z9:List Int),nodes[p]?= some B->us[p]?= some u->Kp [told] s m->Tl m told z9->z9.length+(ev B).2.length<=1000000->m[f]?= some (.list Y)->s.length<=f->k<Y.length->lo<=m.length->f<lo->
   px (n+60) qO (kS r t pa gv uo sp f pl (some (.int (k:Int))) (some (.int (p:Int))) (some u)) (λ x G=>x.1=.next/\x.2=kS r t pa gv uo sp f pl (some (.int (k:Int))) (some (.int (p:Int))) (some u)/\
    ∃a v,(ev B).1=.ok a/\VR lo G v a/\G[f]?= some (.list (Y.set k v))/\Tl G told (z9++(ev B).2)/\Kp [f,told] m G) (λ w G=>(ev B).1=.error w/\Tl G told (z9++(ev B).2)/\Kp [f,told] m G) m)
  (mj:lg.length+(bB ev row nodes 0 (List.replicate row.length none)).2.length<=1000000)
  (hQ:∀A Y m a' lo,s.length<=lo->(bB ev row nodes 0 (List.replicate row.length none)).1=.ok A->m[a']?= some (.list Y)->nu (VR lo) m Y A->Tl m told (lg++(bB ev row nodes 0 (List.replicate row.length none)).2)->Kp [told] s m->s.length<=a'->Q (.ref a') m)
  (hE:∀w m,(bB ev row nodes 0 (List.replicate row.length none)).1=.error w->Tl m told (lg++(bB ev row nodes 0 (List.replicate row.length none)).2)->Kp [told] s m->E w m):
  pc (n+62) (.fn 72) [.ref r,.ref t,.ref pa,gv,.int uo,.ref sp] Q E s:=by
 generalize hT:bB ev row nodes 0 (List.replicate row.length none)=T at mj hQ hE;refine(ba (ρ:=[some (.ref r),some (.ref t),some (.ref pa),some (gv),some (.int uo),some (.ref sp),none,none,none,none,none,none,none,none,none,none]) (by decide) rfl rfl).mpr ?_;show px (n+62) (_:: .a (.one 7) (.comp [none,none] (.l []) [((.one 1),(.inl (.v 2)),[])]):: .ek (.one 8) (.inr (none,(.call (.k (.bi .len)) [(.v 5)]))) [.e (.fY (.i (.v 7) (.i (.v 5) (.v 8))) 0 [(.v 8)])]::
  .ek (.one 9) (.inr (none,(.call (.k (.bi .len)) [(.v 2)]))) [.a (.one 10) (.i (.i (.v 2) (.v 9)) (.k (.int 1))),.ek (.one 8) (.inl (.i (.v 7) (.v 9))) qO]::_) _ _ E s
 obtain ⟨R,hR⟩:∃R,R=row.length:=⟨_,rfl⟩;obtain ⟨N,hN⟩:∃N,N=nodes.length:=⟨_,rfl⟩;have KY:∀ {m},m[sp]?= some (.list (row.map .int))->∀ {Q E},wp (iu .len [.ref sp]) Q E m=Q (.int (R:Int)) m:=by intro m h Q E;rw[len_list h,bo,hR]
 have gln:∀ {m},m[pa]?= some (.list vs)->∀ {Q E},wp (iu .len [.ref pa]) Q E m=Q (.int (N:Int)) m:=by intro m h Q E;erw[len_list h,zb,hN];rfl
 simp only[ae,az,bG,bx,ah,ag,aA,ai,ao,b8]
 rwa[bk (by simp),H f1 k1 l1]
 simp only[bU,ax,ag,aL,ah,af,aq,ak,am,aj,aA,ai,ao,aB,aZ,KY (k1.bM RD),cz]
 rwa[Be f1 (by exact B8) (by exact iA (.l (.t W0) (.c 1000)) [.i W1 (.c 100),.k W0 W1] (.l [1,1,1]) rfl hr hR),aH f2 k2 l2]
 have ky:=k1.trans k2
 simp only[aX,aO,aN,aa,ae,az]
 rwa[J5 (ky.bM hp) rfl (by exact iA (.i W0 (.c 1000)) [.k W0 W1,.i W1 (.c 100)] (.l [1,1,0,1]) rfl zb hl),O U pl g1 g2 g3 g4 g5 k3]
 have uE:=ky.trans k3
 rw [Int.toNat_natCast] at f2
 have f3:=k3.bM f2
 have KS:s.length<=pl:=by exact M3 l1 l2 g5
 have Sc:∀a∈U,aH.length<=a:=λ a ha=>(g4 a ha).1;simp only[aX,aO,aN,aa,ae]
 skip
 refine f0 ?_;simp only[dJ,ax,ag,aL,ah,af,aq,ak,am,aj,aA,ai,ao,aB,aZ,KY (uE.bM RD),gf,cr (show -1000000<= (0:Int)by decide) (by decide),cr (show -1000000<= (R:Int)by exact B7) (by exact Cf hr hR),cP,iG];have gl1:∀ {d:Nat} {o:d4},s[d]?= some o->d∉U:=λ h z=>by have:=bD h;have:=Sc _ z;omega
 have fas:H.length∉U:=λ z=>by have:=Sc _ z;exact iA .z [.k W0 (.a W1 (.c 1)),.i W0 W1] (.l [0,1,1]) rfl l2 this
 have XS:pl∉U:=λ z=>(g4 _ z).2.1 rfl;refine eM (xs:=di 0 (R:Int)) (λ j ρ m=>∃x8,ρ=[some (.ref r),some (.ref t),some (.ref pa),some gv,some (.int uo),some (.ref sp),some (.ref H.length),some (.ref pl),x8,none,none,none,none,none,none,none]/\
   (∀ (p a:Nat),U[p]?= some a->m[a]?= some (d4.list (((List.range j).filter λ k=>row[k]?== some (p:Int)).map fun(k:Nat)=>V.int (k:Int))))/\Kp U O m)
  (λ j x ρ m hx hI A8 ma=>?_) (λ ρ m hI=>?_) _ 0 _ O (Nat.zero_add _) (cR none rfl (λ p a h=>by rw[(g4 a (List.mem_of_getElem? h)).2.2];rfl) .refl)
 ·rwa[bR hI,x8 fO hA k];try clear hI;obtain rfl:=fO
  rwa[aK (cS hx),za hj];rw[Int.zero_add]at za;subst za;have Am:j<row.length:=by exact EC hR hj
  have AZ:row[j]?= some row[j]:=bT Am;rwa[aK (qk row[j] (List.getElem_mem Am)),y0 y1];generalize row[j]=y at AZ y0 y1;obtain ⟨p,rfl⟩:∃p:Nat,y=(p:Int):=⟨y.toNat,by exact IM y0 (Mine.L.bO _)⟩;have zf:p<U.length:=by exact wO (.j W0 W1) [.k W2 W3,.k W1 W2,.p (.t W0) (.t W3)] (.l [1,0,1,0,1,1]) rfl zb g2 y1
  have wU:U[p]?= some U[p]:=bT zf;generalize U[p]=a at wU;have ua:=hA p a wU;have e1:∀ {Q E},wp (cK (.ref sp) (.int (j:Int))) Q E m=Q (.int (p:Int)) m:=bL (k.at (uE.bM RD) (gl1 RD)) (by erw[cg,AZ];rfl);have e2:∀ {Q E},wp (cK (.ref pl) (.int (p:Int))) Q E m=Q (.ref a) m:=bL (k.at g1 XS) (by erw[cg,wU];rfl);have e3:∀ {Q E},wp (ge (.ref a) 0) Q E m=Q () m:=gK ua (.inl rfl);simp only[bt,aO,aN,cQ,ae,cb,eV,aV,af,aq,ak,am,aj,bU,bp,e1,e2,eU,e3,eT,ah,aA,ai,ao,gh];rwa[eZ ua (by rw[bo];have:=List.length_filter_le (λ k=>row[k]?== some (p:Int)) (List.range j);rw[List.length_range]at this;exact jI (.i (.a W0 (.c 1)) (.c 1000000)) [.i W1 (.c 100),.j W2 W1,.i W0 W2] (.l [1,1,1,1]) rfl hr Am this),bK f4 k4 l4];simp only[aP,aa,aM,be];refine ma _ _ (cR _ rfl (λ p' a' h'=>?_) (k.trans (k4.wide λ b J=>by rw[dF]at J;subst J;exact List.mem_of_getElem? wU)));rw[pI];by_cases q:p'=p
  ·subst q;rw[wU]at h';obtain rfl:=an (h');rw[f4,if_pos AZ,List.map_append];rfl
  ·have iI:a'≠a:=λ z=>q (by
    subst z;exact(List.getElem?_inj (cw.mp h').1 g3).mp (h'.trans wU.symm))
   rw[if_neg (by erw[AZ];intro z;exact q (by have:=an z;exact iA (.k W0 W1) [.q (.t W1) (.t W0)] (.s 0 (.l [1,1]) (.l [1,0,1])) rfl this)),List.append_nil];exact k4.at (hA p' a' h') (by exact jh (iI))
 ·rwa[bR hI,x8 gU hA k];try clear hI;obtain rfl:=gU
  have eR:(di 0 (R:Int)).length=row.length:=by rw[bS];exact Hm hR (Mine.L.bO _)
  rw[eR]at hA;have ef:m[H.length]?= some (.list (List.replicate R V.none)):=k.at f3 fas;have kk:Kp U s m:=uE.of.gG k λ a ha=>.inl ha;have k0:Kp [] s m:=uE.gG k λ a ha=>.inr (by have:=Sc a ha;exact M3 l1 l2 this);have N0:=k0.bM hp;simp only[aa,ae]
  skip
  refine f0 ?_;simp only[dJ,ax,ag,aL,ah,af,aq,ak,am,aj,aA,ai,ao,aB,aZ,gln N0,gf,cr (show -1000000<= (0:Int)by decide) (by decide),cr (show -1000000<= (N:Int)by exact B7) (by exact Cf hl hN),cP,iG];have F5:H.length<aH.length:=by exact zZ l2
  have Z2:aH.length<=m.length:=by have:=k3.1;have:=k.1;omega
  have zc:Tl m told lg:=k0.bM ht;have yt:=bD ht;refine eM (xs:=di 0 (N:Int)) (λ p ρ G=>∃x8 x9 fQ A Y d,ρ=kS r t pa gv uo sp H.length pl x8 x9 fQ/\G[H.length]?= some (.list Y)/\nu (VR aH.length) G Y A/\A.length=row.length/\Tl G told (lg++d)/\Kp [H.length,told] m G/\
    T.1=(bB ev row (nodes.drop p) p A).1/\T.2=d++(bB ev row (nodes.drop p) p A).2)
   (λ p x ρ G hx hI KA wN=>?_) (λ ρ G hI=>?_) _ 0 _ m (Nat.zero_add _) (CK x8 none none (List.replicate row.length none) (List.replicate R .none) ([]) rfl ef ⟨by simp [hR],λ k x hk=>?_⟩ (by simp) (by simpa using zc) .refl (by erw[List.drop_zero,hT];rfl) (by erw[List.drop_zero,hT];rfl))
  ·rwa[DG hI,x8 x9 fQ A Y d ip hf kM A3 hH kq As xL];try clear hI;obtain rfl:=ip
   rwa[aK (cS hx),NI xE];rw[Int.zero_add]at NI;subst NI;have uG:p<nodes.length:=by exact EC hN xE
   have Ob:nodes[p]?= some nodes[p]:=bT uG;have lM:=List.drop_eq_getElem_cons uG;generalize nodes[p]=B at Ob lM;have Jm:us[p]?= some (us[p]'(by exact vA Jl uG)):=bT (by exact vA Jl uG);generalize us[p]'(by exact vA Jl uG)=u at Jm;rwa[aW (Oe p u Jm),c Vm];have wU:U[p]?= some (U[p]'(by exact IK zb g2 uG)):=bT (by exact IK zb g2 uG);generalize U[p]'(by exact IK zb g2 uG)=a at wU;have ha:a∈U:=List.mem_of_getElem? wU;have OJ:=hA p a wU;have YD:a∉[H.length,told]:=by have:=Sc a ha;simp;exact Fx (.e (.n (.k W0 W1)) (.n (.k W0 W2))) [.k W1 (.a W3 (.c 1)),.k W4 (.a W1 (.c 1)),.j W2 W3,.i W4 W0] (.s 0 (.s 0 (.l [1,0,0,0,0,1,0,1]) (.l [1,0,0,0,0,1,0,1])) (.s 0 (.l [1,0,0,1,0,1,1,1]) (.l [1,0,0,1,0,1,1,1]))) rfl l1 l2 yt this
   have pf:pa∉[H.length,told]:=by have:=bD hp;simp;exact wO (.e (.n (.k W0 W1)) (.n (.k W0 W2))) [.n (.k W0 W2),.k W1 (.a W3 (.c 1)),.j W0 W3] (.s 0 (.s 0 (.l [0,1,0,1,1]) (.l [0,1,0,1,1])) (.s 0 (.s 3 (.l [1,0,1]) (.l [1,1])) (.s 3 (.l [1,0,1]) (.l [1,1])))) rfl CY l1 this
   have Z8:pl∉[H.length,told]:=by simp;exact Fx (.e (.n (.k W0 W1)) (.n (.k W0 W2))) [.k W1 (.a W3 (.c 1)),.k W4 (.a W1 (.c 1)),.i W4 W0,.j W2 W3] (.s 0 (.s 0 (.l [1,0,0,0,0,1,1]) (.l [1,0,0,0,0,1,1])) (.s 0 (.l [1,0,0,1,0,1,1,1]) (.l [1,0,0,1,0,1,1,1]))) rfl l1 l2 g5 yt
   have kf:∀ {O:St},Kp [H.length,told] m O->Kp [told] s O:=λ q=>k0.of.gG q λ b J=>by
    rcases List.mem_cons.mp J with rfl|J
    ·right;exact Ce l1
    ·left;exact J
   have Uy:pl<O.length:=bD g1;have e1:∀ {Q E},wp (cK (.ref pa) (.int (p:Int))) Q E G=Q (.tup [c,u]) G:=bL (kq.at N0 pf) Vm;have e2:∀ {Q E},wp (cK (.ref pl) (.int (p:Int))) Q E G=Q (.ref a) G:=bL (kq.at (k.at g1 XS) Z8) (by erw[cg,wU];rfl);unfold kS;simp only[bt,aO,aN,cQ,ae,az,aV,af,aq,ak,am,aj,bU,bp,e1,ag,eP,aX,aa]
   skip
   refine eQ ?_;simp only[aV,af,aq,ak,am,aj,bU,bp,e2,gL];rw[lM]at As xL;have qE:bB ev row (B::nodes.drop (p+1)) p A=(match dO ev B (cF row p) A with
    |(.error w,l)=>(.error w,l)
    |(.ok g,l)=>((bB ev row (nodes.drop (p+1)) (p+1) g).1,l++(bB ev row (nodes.drop (p+1)) (p+1) g).2)):=rfl
   refine(c9 a _ rfl (kq.at OJ YD) ?_);refine eh (λ i ρ O=>∃x8 g om d',ρ=kS r t pa gv uo sp H.length pl x8 (some (.int (p:Int))) (some u)/\O[H.length]?= some (.list om)/\nu (VR aH.length) O om g/\g.length=row.length/\Tl O told (lg++(d++d'))/\Kp [H.length,told] m O/\
     (dO ev B (cF row p) A).1=(dO ev B ((cF row p).drop i) g).1/\(dO ev B (cF row p) A).2=d'++(dO ev B ((cF row p).drop i) g).2)
    (λ i ρ O YJ=>by rwa[DJ YJ,_ _ _ _ _ _ _ _ _ q _,-YJ];exact q.at OJ YD) (λ i v ρ O sB hJ Iv3 mk3=>?_) (λ ρ O hJ=>?_) _ 0 _ G (by simp [cF]) (Nat.zero_le _) (nP x8 A Y ([]) rfl hf kM A3 (by simpa using hH) kq (by exact aU List.drop_zero rfl) (by exact aU List.drop_zero rfl))
   ·rwa[qA hJ,y8 g om d' iB zj jc m8 vQ wP wR uH];try clear hJ;obtain rfl:=iB
    have C5:(((cF row p).map fun(k:Nat)=>V.int (k:Int)))[i]?= some v:=sB;rw[cg]at C5;generalize Oo:(cF row p)[i]?= T9;induction T9 with
    |none=>rw[Oo]at C5;exact aD (C5)
    |some kx=>
     rw[Oo]at C5;obtain rfl:=an (C5);have m7:=(cw.mp Oo).1;have hdk:(cF row p).drop i=kx::(cF row p).drop (i+1):=by erw[List.drop_eq_getElem_cons m7];congr 1;exact an ((bT m7).symm.trans Oo)
     rw[hdk]at wR uH;have UZ:kx<row.length:=by have:=List.mem_of_getElem? Oo;unfold cF at this;rw[List.mem_filter,List.mem_range]at this;exact this.1
     have qx:dO ev B (kx::(cF row p).drop (i+1)) g=(match ev B with
      |(.error w,l)=>(.error w,l)
      |(.ok v,l)=>((dO ev B ((cF row p).drop (i+1)) (g.set kx (some v))).1,l++(dO ev B ((cF row p).drop (i+1)) (g.set kx (some v))).2)):=rfl
     have J:(lg++(d++d')).length+(ev B).2.length<=1000000:=by
      have z1:(ev B).2.length<= (dO ev B (kx::(cF row p).drop (i+1)) g).2.length:=by
       erw[qx]
       generalize hh:ev B=T8;induction T8 with
       |mk q l=>rcases q with ⟨⟩<;> simp
      have z2:(dO ev B (cF row p) A).2.length<= (bB ev row (B::nodes.drop (p+1)) p A).2.length:=by
       erw[qE]
       generalize hh:dO ev B (cF row p) A=T7;induction T7 with
       |mk q l=>rcases q with ⟨⟩<;> simp
      have z3:=congrArg List.length uH;have z4:=congrArg List.length xL;simp only[List.length_append]at z3 z4 mj ⊢;exact M2 mj z1 z2 z3 z4
     unfold kS;simp only[bt,aO,aN,cQ];refine Ie (V1 p kx B u O H.length pl aH.length om (lg++(d++d')) Ob Jm (kf wP) vQ J zj (by exact Ce l1) (by erw[jc.1,m8];exact UZ) (by have:=wP.1;exact Hk Z2 this) F5) (λ x bK hx=>?_) (λ w' bK hx=>?_)
     ·obtain ⟨fl,dH⟩:=x;rwa[cA hx,d8 fu fZ];try clear hx;obtain rfl:=d8;obtain rfl:=fu;rwa[cv fZ,v' b RC hv2 hv3 RB Yk,-fZ]
      refine mk3 _ _ (nP _ (g.set kx (some v')) (om.set kx b) (d'++(ev B).2) rfl hv3 ⟨by simp [jc.1],λ k x hk=>?_⟩ (by simp [m8]) (by simpa [List.append_assoc] using RB) (wP.trans Yk) ?_ ?_)
      ·by_cases q:k=kx
       ·subst q;rw[List.getElem?_set_self (by exact aU m8 UZ)]at hk;obtain rfl:=an (hk);exact(aw b (by erw[List.getElem?_set_self (by rw[jc.1,m8];exact UZ)];rfl) hv2)
       ·rw[List.getElem?_set_ne (λ z=>q z.symm)]at hk;rwa[ac (jc.2 k x hk),oU w1 w2];refine(aw oU (by exact aU (List.getElem?_set_ne (λ z=>q z.symm)) w1) ?_)
        induction x with
        |none=>exact w2
        |some y=>exact EK _ _ _ _ _ _ w2 Yk (by intro b J;simp at J;exact Fx (.j W0 W1) [.k W2 (.a W3 (.c 1)),.k W1 (.a W2 (.c 1)),.j W4 W3,.o (.k W0 W2) (.k W0 W4)] (.s 4 (.l [1,0,1,0,0,0,1]) (.l [1,0,1,0,1,0,1,1])) rfl l1 l2 yt J)
      ·erw[wR,qx]
       generalize hh:ev B=T6;induction T6 with
       |mk q l=>rw[hh]at RC;cases RC;rfl
      ·erw[uH,qx]
       generalize hh:ev B=T5;induction T5 with
       |mk q l=>rw[hh]at RC;cases RC;simp
     ·rwa[cA hx,RA Ai hw3,-hx];have er:(dO ev B (cF row p) A)=(.error w',d'++(ev B).2):=by
       refine Prod.ext ?_ ?_
       ·erw[wR,qx]
        generalize hh:ev B=T4;induction T4 with
        |mk q l=>rw[hh]at RA;cases RA;rfl
       ·erw[uH,qx]
        generalize hh:ev B=T3;induction T3 with
        |mk q l=>rw[hh]at RA;cases RA;rfl
      refine hE w' bK ?_ ?_ (kf (wP.trans hw3))
      ·erw[As,qE,er];rfl
      ·erw[xL,qE,er]
       simpa [List.append_assoc] using Ai
   ·rwa[qA hJ,y8 g om d' gm zj jc m8 vQ wP wR uH];try clear hJ;obtain rfl:=gm
    have el:(((List.range row.length).filter λ k=>row[k]?== some (p:Int)).map fun(k:Nat)=>V.int (k:Int)).length=(cF row p).length:=by simp [cF]
    rw[el,List.drop_length]at wR uH;have er:(dO ev B (cF row p) A)=(.ok g,d'):=Prod.ext wR (by exact aU uH (List.append_nil _));unfold kS;simp only[aa,aM,be];refine wN _ _ (CK _ _ _ g om (d++d') rfl zj jc m8 vQ wP ?_ ?_)
    ·erw[As,qE,er];rfl
    ·rw[xL,qE,er,List.append_assoc]
  ·rwa[DG hI,x8 x9 fQ A Y d iJ hf kM A3 hH kq As xL];try clear hI;obtain rfl:=iJ
   have eN:(di 0 (N:Int)).length=nodes.length:=by rw[bS];exact Hm hN (Mine.L.bO _)
   rw[eN,List.drop_length]at As xL;have h2:T.2=d:=by exact aU xL (List.append_nil _)
   unfold kS;simp only[aa,ae,aT,af,aq,ak,am,aj,br,aF,aG];refine hQ A Y G _ aH.length (by exact z6 l1 l2) As hf kM (by exact aU h2 hH) (k0.of.gG kq λ b J=>?_) (by exact Ce l1);rcases List.mem_cons.mp J with rfl|J
   ·right;exact Ce l1
   ·left;exact J
  ·have Ju:=(cw.mp hk).1;rw[List.getElem?_replicate,if_pos (by simpa using Ju)]at hk;obtain rfl:=an (hk);exact(aw .none (by erw[List.getElem?_replicate,if_pos (by rw[hR];simpa using Ju)];rfl) rfl)
end
noncomputable def jq(lo:Nat)(s:St)(v:V)(e:List Rg)(d:List V):Prop:=∃a c b,v=.ref a/\lo<=a/\lo<=c/\lo<=b/\s[a]?= some (.inst 8 [(4,.ref c),(5,.ref b)])/\s[c]?= some (.list (e.map du))/\s[b]?= some (.list d)
theorem jq.kp(h:jq lo s v p i)(k:Kp W s s')(c:∀b∈W,b<lo):jq lo s' v p i:=by rwa[jU h,a q j e g f d o m l,-h];exact(kK a q j e g f d (k.at o (λ z=>by have:=c _ z;exact Hn g this)) (k.at m (λ z=>by have:=c _ z;exact Hn f this)) (k.at l (λ z=>by have:=c _ z;exact Hn d this)))
theorem jq.low(h:jq lo s v l d)(b:c<=lo):jq c s v l d:=by rwa[qC h,a m f e k j i g,-h];exact(qj a m f e (Hk b k) (Hk b j) (Hk b i) g)
section
variable{n:Nat}{Q:V->St->Prop}{E:Str->St->Prop}{s:St}
theorem D4(h:∀a,a[s.length]?= some (.inst 8 [(4,b),(5,i)])->Kp [] s a->a.length=s.length+1->Q (.ref s.length) a):pc (n+10) (.cls 8) [b,i] Q E s:=by
 erw[call_cls rfl]
 rwa[eA,p m j e];refine(gX (ρ:=[some (.ref s.length),some (b),some (i)]) rfl).mpr ?_;simp only[Zn,ae,au,af,aq,ak,am,aj,aR,aY];rwa[dI m rfl (by decide),q l g d];simp only[aP,aa,ae,au,af,aq,ak,am,aj,aR,aY];rwa[dI l rfl (by decide),o k f c];simp only[aP,aa,aM,fq,sv];exact h o k ((j.gG g (by exact m2)).gG f (by exact m2)) (M1 e d c)
theorem nZ(h:∀a,a[s.length]?= some (.inst 30 [(6,b),(7,i)])->Kp [] s a->a.length=s.length+1->Q (.ref s.length) a):pc (n+10) (.cls 30) [b,i] Q E s:=by
 erw[call_cls rfl]
 rwa[eA,p m j e];refine(gX (ρ:=[some (.ref s.length),some (b),some (i)]) rfl).mpr ?_;simp only[Qo,ae,au,af,aq,ak,am,aj,aR,aY];rwa[dI m rfl (by decide),q l g d];simp only[aP,aa,ae,au,af,aq,ak,am,aj,aR,aY];rwa[dI l rfl (by decide),o k f c];simp only[aP,aa,aM,fq,sv];exact h o k ((j.gG g (by exact m2)).gG f (by exact m2)) (M1 e d c)
theorem qy(s:St):∀ (d j:List Rg) (f:Nat),d.length+6<=f->d.length=j.length->fW f s (d.map du) (j.map du)=some (decide (d=j))
 | [],[],f+1,_,_=>rfl
 | [],[],0,h,_=>by simp at h
 |b::d,c::j,0,h,_=>by simp at h
 |b::d,c::j,f+1,h,p=>by
  have m:=qy s d j f (by simp at h;exact iA (.i (.a W0 (.c 6)) W1) [.i (.a W0 (.c 6)) W1] (.l [1,1]) rfl h) (by simpa using p);have t:lQ f s (du b) (du c)=some (decide (b=c)):=by
   obtain ⟨g,rfl⟩:∃g,f=g+5:=⟨f - 5,by simp at h;exact jI (.k W0 (.a W1 (.c 5))) [.i (.a W2 (.c 6)) W0,.o (.e (.i (.c 5) W0) (.k (.a W1 (.c 5)) W0)) (.e (.i W0 (.c 5)) (.k W1 (.c 0)))] (.s 0 (.s 3 (.l [0,1,0,1]) (.l [0,1,0,1,1])) (.s 3 (.l [0,0,1,1]) (.l [1,0,0,1]))) rfl h (Mine.L.uT _ _)⟩;show(if [V.int b.1,V.int b.2].length=[V.int c.1,V.int c.2].length then fW (g+4) s [V.int b.1,V.int b.2] [V.int c.1,V.int c.2]else none)=_
   erw[if_pos (show [V.int b.1,V.int b.2].length=[V.int c.1,V.int c.2].length from rfl)]
   show((lQ (g+3) s (.int b.1) (.int c.1)).bind λ a=>(fW (g+3) s [V.int b.2] [V.int c.2]).map λ b=>a&&b)=_;have r:lQ (g+3) s (.int b.1) (.int c.1)=some (decide (b.1=c.1)):=rfl;have q:fW (g+3) s [V.int b.2] [V.int c.2]=some (decide (b.2=c.2)&&true):=rfl
   erw[r,q]
   show some (decide (b.1=c.1)&& (decide (b.2=c.2)&&true))=_;simp only[Bool.and_true]
   congr 1
   rw[Bool.eq_iff_iff];simp [Prod.ext_iff]
  show((lQ f s (du b) (du c)).bind λ a=>(fW f s (d.map du) (j.map du)).map λ b=>a&&b)=_
  erw[t,m]
  show some (decide (b=c)&&decide (d=j))=_
  congr 1
  rw[Bool.eq_iff_iff];simp
theorem un(i:s[x]?= some (.list a))(h:s[y]?= some (.list b))(g:a.length=b.length->fW 999 s a b=some r)(f:a.length≠b.length->r=false)(j:x=y->r=true):lQ dY s (.ref x) (.ref y)=some r:=by
 show((rK s x).bind λ e=>(rK s y).bind λ d=>if x=y then some true else if e.length=d.length then fW 999 s e d else some false)=_
 erw[n8 i,n8 h]
 show(if x=y then some true else if a.length=b.length then fW 999 s a b else some false)=_;by_cases q:x=y
 ·erw[if_pos q,j q];rfl
 ·erw[if_neg q]
  by_cases c:a.length=b.length
  ·erw[if_pos c,g c];rfl
  ·erw[if_neg c,f c];rfl
theorem HG{x y:Nat}{g j:List Rg}(d:s[x]?= some (.list (g.map du)))(f:s[y]?= some (.list (j.map du)))(o:g.length<=900):lQ dY s (.ref x) (.ref y)=some (decide (g=j)):=by
 refine un d f (λ h=>qy s g j 999 (mF (.i (.a W0 (.c 6)) (.c 999)) [.i W0 (.c 900)] (.l [1,1]) rfl o) (by simpa using h)) (λ h=>?_) (λ h=>?_)
 ·exact bA λ z=>h (aU z rfl)
 ·subst h;rw[d]at f;have e:=an f;injection e with e;refine bq ?_;have k:∀ (a b:List Rg),a.map du=b.map du->a=b:=by
   intro a
   induction a with
   |nil=>intro b h;cases b with|nil=>rfl|cons=>exact bZ List.ctorIdx (h) rfl
   |cons x a m=>
    intro b h
    induction b with
    |nil=>exact bZ List.ctorIdx (h) rfl
    |cons y b=>
     simp only[List.map_cons,List.cons.injEq]at h;rwa[aK h,d f,-h]
     erw[m b f]
     congr 1
     unfold du at d;injection d with d;simp only[List.cons.injEq,V.int.injEq,and_true]at d;exact Prod.ext d.1 d.2
  exact k g j e
noncomputable def ce:Str:= "constraint_error"
noncomputable def se:Str:= "storage_error"
abbrev my:=Rg×List (Option Int)
noncomputable def UA:Option Int->V
 |none=>.none
 |some i=>.int i
noncomputable def bC(l:List (Option Int)):List V:=l.map UA
noncomputable def lK(b:Rg):List my->Option (List Rg×List (Option Int))
 | []=>none
 |r::rs=>if(r::rs).all (λ x=>decide (x.1=r.1))then some ([b,r.1],(r::rs).flatMap (·.2))else none
theorem jP:lK b (r::rs)=if(r::rs).all (λ x=>decide (x.1=r.1))then some ([b,r.1],(r::rs).flatMap (·.2))else none:=rfl
theorem c26{u:Nat}{b:Rg}{H:List V}{rows:List my}{lo:Nat}(g:s[u]?= some (.list H))(hl:H.length=rows.length)(h0:rows≠ [])(hn:rows.length<=100)(O:∀r∈rows,r.2.length<=1000)(hu:∀ (i:Nat) (r:my),rows[i]?= some r->∃v,H[i]?= some v/\jq lo s v [r.1] (bC r.2))
  (h:∀r f v,lK b rows=some r→jq s.length f v r.1 (bC r.2)→Kp [] s f→Q v f) (h':∀f,lK b rows=none→Kp [] s f→E "constraint_error" f):
  pc (n+40) (.fn 26) [du b,.ref u] Q E s:=by
 obtain ⟨d,rs,rfl⟩:∃d rs,rows=d::rs:=by cases rows with|nil=>exact absurd rfl h0|cons r rs=>exact(im r rs rfl)
 rwa[ac (hu 0 d rfl),v0 g0 bw];rwa[jU bw,a0 Sa Yg b7 _ _ _ i1 i2 i3];try clear bw;subst b7
 have e1:∀ {Q E},wp (cK (.ref u) (.int 0)) Q E s=Q (.ref a0) s:=bL (j:=0) g g0;have e2:∀ {Q E},wp (cM (.ref a0) 4) Q E s=Q (.ref Sa) s:=dg i1 rfl rfl;refine(ba (ρ:=[some (du b),some (.ref u),none,none,none,none,none,none]) (by decide) rfl rfl).mpr ?_;simp only[PZ,ae,az,bF,aV,af,aq,ak,am,aj,bU,ag,bp,e1,ci,e2,aX,aO,aN,aa,bx,ai,b8];rwa[bk (by simp),ay f1 J l1];simp only[aX,aO,aN,aa,ae]
 skip
 refine eQ ?_;simp only[af,aq,ak,am,aj,gL];refine(c9 u H rfl (J.bM g) ?_);have Ar:∀ (i:Nat),((d::rs).take i).all (λ x=>decide (x.1=d.1))=true->i< (d::rs).length->(∃r,(d::rs)[i]?= some r/\(r.1=d.1->((d::rs).take (i+1)).all (λ x=>decide (x.1=d.1))=true)/\(r.1≠d.1->lK b (d::rs)=none)):=by
  intro i O lL;refine(cR ((d::rs)[i]) (bT lL) (λ z=>?_) (λ z=>?_))
  ·erw[List.take_add_one,bT lL,List.all_append,O]
   simp [z]
  ·rw[jP,if_neg];intro A;rw[List.all_eq_true]at A;exact z (by simpa using A _ (List.getElem_mem lL))
 refine eh (λ i G f=>∃x4,G=[some (du b),some (.ref u),some (.ref Sa),some (.ref s.length),x4,none,none,none]/\((d::rs).take i).all (λ x=>decide (x.1=d.1))=true/\
   f[s.length]?= some (.list (bC (((d::rs).take i).flatMap (·.2))))/\Kp [s.length] ay f)
  (λ i G f YI=>by rwa[dR YI,_ _ _ _ k,-YI];exact k.at (J.bM g) (by have:=bD g;simp;exact AW this)) (λ i v G f hv B A8 ma=>?_) (λ G f B=>?_) _ 0 _ ay (by exact Nat.zero_add _) (Nat.zero_le _) (dP none rfl (by simp) (by exact aU f1 rfl) .refl)
 ·rwa[dR B,x4 cH Y U k];try clear B;subst cH
  have m7:i< (d::rs).length:=by exact fM hl ((cw.mp hv).1)
  rwa[bR (Ar i Y m7),r CX A0 We];rwa[ac (hu i r CX),v' g1 dy];rwa[jU dy,a1 bl1 il1 eK _ _ _ j1 j2 j3];try clear dy;subst eK
  rw[hv]at g1;obtain rfl:=an (g1);have t:=J.gG k (by exact m2);have q1:∀ {Q E},wp (cM (.ref a1) 4) Q E f=Q (.ref bl1) f:=dg (t.bM j1) rfl rfl;simp only[bt,aO,aN,cQ,ae,bv,aI,ax,ag,aL,ah,bF,af,aq,ak,am,aj,ci,q1,aA,ai,ao,aB,aZ];rwa[nB (t.bM j2),aH f2 y l2];simp only[bU,ax,ag,aL,ah,af,aq,ak,am,aj,aA,ai,ao,aB,aZ];rwa[nB (y.bM (t.bM i2)),p f3 w l3];have q2:∀ {Q E},wp (bz .NotEq (.ref f.length) (.ref aH.length)) Q E p=Q (.bool (!decide ([r.1]=[d.1]))) p:=rJ (HG (w.bM f2) f3 (by simp));have FR:=y.trans w;have U0:=t.trans FR;have Ul:s.length<f.length:=by have:=k.1;exact M0 l1 this
  have zj:=FR.bM U;simp only[aS,q2];by_cases q:r.1=d.1
  ·have q3:∀ {Q E},wp (ge (.ref s.length) 1) Q E p=Q () p:=gK zj (.inr rfl);have q4:∀ {Q E},wp (cM (.ref a1) 5) Q E p=Q (.ref il1) p:=dg (U0.bM j1) rfl rfl
   erw[bq (show [r.1]=[d.1]from by rw[q])]
   simp only[Bool.not_true,aJ,c7,aM,aa,ae,cb,eV,af,aq,ak,am,aj,eU,q3,eT,ah,bF,ci,q4,aA,ai,ao,gh];have dT:(bC (((d::rs).take i).flatMap (·.2))).length<=100000:=by
    have:∀ (l:List my),(∀r∈l,r.2.length<=1000)->(l.flatMap (·.2)).length<=1000 * l.length:=by
     intro l
     induction l with
     |nil=>intro _;simp
     |cons x l ih=>intro A;have h1:=A x (.head _);have h2:=ih λ r g=>A r (.tail _ g);simp only[List.flatMap_cons,List.length_append,List.length_cons];exact MZ h1 h2
    have h2:=this ((d::rs).take i) λ r g=>O r (List.mem_of_mem_take g);unfold bC;rw[bo];have h3:((d::rs).take i).length<= (d::rs).length:=by rw[List.length_take];exact jI (.i W0 W1) [.j W2 W1,.o (.e (.i W2 W1) (.k W0 W2)) (.e (.i W1 W2) (.k W0 W1))] (.s 2 (.l [0,1,0,1,1]) (.l [0,1,0,1])) rfl m7 (Mine.L.vr _ _)
    exact jI (.i W0 (.c 100000)) [.i W1 (.c 100),.i W0 (.m 1000 W2),.i W2 W1] (.l [1,1000,1,1000]) rfl hn h2 h3
   have Ok:(bC r.2).length<=1000:=by unfold bC;rw[bo];exact O r (List.mem_of_getElem? CX)
   rwa[uN zj (U0.bM j3) (iA (.i (.a W0 W1) (.c 1000000)) [.i W0 (.c 100000),.i W1 (.c 1000)] (.l [1,1,1]) rfl dT Ok),bK f4 k4 l4];simp only[aP,aa,aM,be];refine ma _ _ (dP _ rfl (A0 q) ?_ ((k.gG FR (by simp)).trans k4))
   erw[f4,List.take_add_one,CX]
   simp [bC]
  ·erw[bA (show ¬ [r.1]=[d.1]from λ z=>q (by simpa using z))]
   simp only[Bool.not_false,aQ,c7,ae,cb,ax,ag,aL,ah,aA,ai,ao,aB];exact EN (h' p (We q) U0)
 ·rwa[dR B,x4 fO Y U k];try clear B;subst fO
  rw[hl,List.take_length]at Y U;have t:=J.gG k (by exact m2);have Ul:s.length<f.length:=by have:=k.1;exact M0 l1 this
  simp only[aa,ae,aT,ax,ag,aL,ah,bG,bx,af,ak,am,aj,aA,ai,ao,b8];rwa[bk (by simp),aH f2 y l2];simp only[bU,ax,ag,aL,ah,af,aq,ak,am,aj,aA,ai,ao,aB,aZ];rwa[nB (y.bM (t.bM i2)),p f3 w l3];simp only[cz];rwa[sV (w.bM f2) f3 (by simp),bK f4 k4 l4];simp only[aA,ah,af,aq,ak,am,aj,ai,ao,aB];rwa[D4,cI f5 k5 l5];simp only[br,aF,aG];have Rv:=((y.trans w).trans k4).trans k5;refine h ([b,d.1],(d::rs).flatMap (·.2)) cI _ ?_ (kK _ _ _ rfl (Fx (.i W0 W1) [.j W0 W2,.k W3 (.a W2 (.c 1)),.k W4 (.a W3 (.c 1)),.k W1 (.a W4 (.c 1))] (.l [1,1,0,1,0,1,0,1]) rfl Ul l2 l3 l4) (wO (.i W0 W1) [.j W0 W2,.k W3 (.a W2 (.c 1)),.k W1 (.a W3 (.c 1))] (.l [1,1,0,1,0,1]) rfl Ul l2 l3) (Nat.le_refl _) f5 (k5.bM f4) (Rv.bM U)) (t.trans Rv)
  erw[jP,if_pos Y];rfl
end
theorem qK(h:cj b p c i=some d):∀x∈d,x∈c∨x=(p:Int):=by
 unfold cj at h
 split at h
 ·obtain rfl:=an (h);intro x a;rcases List.mem_or_eq_of_mem_set a with h|h
  ·exact .inl h
  ·exact .inr h
 ·exact aD (h)
theorem qI:∀ {e:List Int} {a c:List Int},cB b p e a=some c->∀x∈c,x∈a∨x=(p:Int)
 | [],a,c,h,x,d=>by obtain rfl:=an (h);exact .inl d
 |i::e,a,c,h,x,d=>by
  rwa[ac (Option.bind_eq_some_iff.mp h),j g f];rcases qI f x d with h|h
  ·exact qK g x h
  ·exact .inr h
noncomputable def G1(p:Nat)(st:wF):Prop:=(∀x∈st.fs,x= -1∨(0<=x/\x< (p:Int)))/\(st.rest= -1∨(0<=st.rest/\st.rest< (p:Int)))
theorem qM:∀ {j:List Ch} {p:Nat} {st g:wF},eE b j p st=some g->G1 p st->G1 (p+j.length) g
 | [],p,st,g,h,i=>by obtain rfl:=an (h);exact i
 |c::j,p,st,g,h,i=>by
  rwa[ac (Option.bind_eq_some_iff.mp h),u m y];have:G1 (p+1) u:=by
   rwa[aK i,v B,-i];have d:∀ {o:List Int},(∀x∈o,x∈st.fs∨x=(p:Int))->∀x∈o,x= -1∨(0<=x/\x< ((p+1:Nat):Int)):=λ w x k=>by
    rcases w x k with h|h
    ·rcases v x h with h|h
     ·exact .inl h
     ·exact .inr (kJ (.e (.l (.c 0) Y0) (.p Y0 (.t (.a W0 (.c 1))))) [.e (.l (.c 0) Y0) (.p Y0 (.t W0))] (.s 0 (.l [1,1]) (.l [1,0,1])) rfl h)
    ·exact .inr (kJ (.e (.l (.c 0) Y0) (.p Y0 (.t (.a W0 (.c 1))))) [.q Y0 (.t W0)] (.s 0 (.l [1,0,1]) (.l [1,1])) rfl h)
   have r:st.rest= -1∨(0<=st.rest/\st.rest< ((p+1:Nat):Int)):=by omega
   induction c with
   |pos=>rwa[ac (Option.map_eq_some_iff.mp m),f n z];subst z;exact⟨d (qK n),r⟩
   |gc=>obtain rfl:=an (m);exact⟨d (λ x k=>.inl k),.inr (by show 0<= (p:Int)/\(p:Int)< ((p+1:Nat):Int);exact mF (.e (.l (.c 0) (.t W0)) (.p (.t W0) (.t (.a W0 (.c 1))))) [] (.s 0 (.l [1]) (.l [1])) rfl)⟩
   |eG l=>rwa[ac (Option.map_eq_some_iff.mp m),f n A];subst A;exact⟨d (qI n),r⟩
  have:=qM y this;rw[List.length_cons,Nat.add_comm j.length 1,← Nat.add_assoc];exact this
theorem jK(h:mP n b=some a):a.length=jH b/\∀x∈a,0<=x/\x< (n.length:Int):=by
 rwa[ac (Option.bind_eq_some_iff.mp h),st k d];have c:G1 0 ⟨List.replicate (jH b) (-1),b.1,-1⟩:=⟨λ x e=>.inl (List.eq_of_mem_replicate e),.inl rfl⟩;have c:=qM k c;have m:=gQ k;unfold oM at d
 split at d
 ·exact aD (d)
 ·rename_i l;obtain rfl:=an (d);refine⟨by rw[bo,m];simp,λ x e=>?_⟩;rwa[ac (List.mem_map.mp e),y g o];subst o;have j:=c.1 y g;have i:=c.2;rw[Nat.zero_add]at j i;by_cases q:y<0
  ·erw[if_pos q]
   by_cases f:st.rest<0
   ·exact absurd ⟨f,y,g,q⟩ l
   ·exact MY i f
  ·exact aU (if_neg q) (MY j q)
section
variable{ν α:Type}{ev:ν->Except Str α×List Int}
noncomputable def uC(a:List (Option α))(k:Nat):Prop:=∃y,a[k]?= some (some y)
theorem rT:∀ {c:List Nat} {b acc':List (Option α)} {l:List Int},dO ev d c b=(.ok acc',l)->acc'.length=b.length/\(∀k,uC b k->uC acc' k)/\∀k∈c,k<b.length->uC acc' k
 | [],b,acc',l,h=>by cases h;exact(bN rfl (λ _ h=>h) (λ k h=>bQ (h)))
 |k::c,b,acc',l,h=>by
  have e:dO ev d (k::c) b=(match ev d with
   |(.error w,l)=>(.error w,l)
   |(.ok v,l)=>((dO ev d c (b.set k (some v))).1,l++(dO ev d c (b.set k (some v))).2)):=rfl
  rw[e]at h;generalize z:ev d=s;induction s with
  |mk a t=>
   rw[z]at h
   induction a with
   |error w=>exact nomatch h
   |ok v=>
    simp only[Prod.mk.injEq]at h;rwa[aK h,p u,-h];rwa[cA (rT (acc':=acc') (l:=(dO ev d c (b.set k (some v))).2) (Prod.ext p rfl)),o g n];have r:∀j,uC b j->uC (b.set k (some v)) j:=λ j ⟨y,i⟩=>by
     by_cases q:k=j
     ·subst q;exact⟨v,by erw[List.getElem?_set_self (cw.mp i).1];rfl⟩
     ·exact⟨y,by exact aU (List.getElem?_set_ne q) i⟩
    refine(bN (by erw[o];simp) (λ j f=>g j (r j f)) (λ j f m=>?_));rcases List.mem_cons.mp f with rfl|f
    ·exact g j ⟨v,by erw[List.getElem?_set_self m];rfl⟩
    ·exact n j f (by simpa using m)
theorem ow:∀ {b:List ν} {p:Nat} {d acc':List (Option α)},d.length=f.length->(bB ev f b p d).1=.ok acc'->acc'.length=d.length/\(∀k,uC d k->uC acc' k)/\∀k (j:Nat),f[k]?= some (j:Int)->p<=j->j<p+b.length->uC acc' k
 | [],p,d,acc',r,h=>by obtain rfl:=Except.ok.inj (h);exact(bN rfl (λ _ h=>h) (λ k j _ t m=>by simp at m;exfalso;exact Hn t m))
 |o::b,p,d,acc',r,h=>by
  have e:bB ev f (o::b) p d=(match dO ev o (cF f p) d with
   |(.error w,l)=>(.error w,l)
   |(.ok acc',l)=>((bB ev f b (p+1) acc').1,l++(bB ev f b (p+1) acc').2)):=rfl
  rw[e]at h;generalize z:dO ev o (cF f p) d=H;induction H with
  |mk a L=>
   rw[z]at h
   induction a with
   |error w=>exact bZ Except.ctorIdx (h) rfl
   |ok J=>
    rwa[cA (rT z),v G B];rwa[cA (ow (p:=p+1) (acc':=acc') (by erw[v,r];rfl) h),A u y];refine(bN (by erw[A,v];rfl) (λ k g=>u k (G k g)) (λ k j g t m=>?_));by_cases q:j=p
    ·subst q;have x:=(cw.mp g).1;exact u k (B k (by unfold cF;rw[List.mem_filter,List.mem_range];exact⟨x,by rw[g];simp⟩) (vA r x))
    ·exact y k j g (iA (.i (.a W0 (.c 1)) W1) [.i W0 W1,.n (.k W1 W0)] (.s 2 (.l [1,0,1]) (.l [1,1])) rfl t q) (by simp at m;exact jI (.j W0 (.a (.a W1 (.c 1)) W2)) [.j W0 (.a W1 (.a W2 (.c 1)))] (.l [1,1]) rfl m)
theorem sF:∀ {acc:List (Option α)},(∀k,k<acc.length->uC acc k)->∃l:List α,acc=l.map some
 | [],_=>⟨[],rfl⟩
 |x::acc,h=>by
  rwa[aW (h 0 (by simp)),y a];refine aW (sF (acc:=acc) λ k c=>by obtain ⟨z,hz⟩:=h (k+1) (by simpa using c);exact⟨z,by simpa using hz⟩) λ l b=>?_
  simp at a;exact⟨y::l,by erw[a,b];rfl⟩
theorem u7(u:∀x∈b,0<=x/\x< (d.length:Int))(h:(bB ev b d 0 (List.replicate b.length none)).1=.ok f):∃l:List α,f=l.map some/\l.length=b.length:=by
 rwa[cA (ow (by simp) h),g _ w];rw[List.length_replicate]at g;refine aW (sF (acc:=f) λ k v=>by
  have n:k<b.length:=by exact Fw g v
  obtain ⟨i,r⟩:=u b[k] (List.getElem_mem n);exact w k b[k].toNat (by erw[bT n];congr 1;exact IM i (Mine.L.bO _)) (Nat.zero_le _) (pW (.j W0 (.a (.c 0) W1)) [.l (.c 0) Y0,.p Y0 (.t W1),.o (.e (.l (.c 0) Y0) (.q (.t W0) Y0)) (.e (.l Y0 (.c 0)) (.k W0 (.c 0)))] (.s 3 (.l [0,1,0,1,0,1]) (.l [0,1,0,1,1,1])) rfl i r (Mine.L.bO _))) λ l m=>?_
 exact(aw l m (by refine fM g ?_;erw[m];simp))
theorem nI(f:(ev b).2.length<=m):∀ {ks:List Nat} {acc:List (Option α)},(dO ev b ks acc).2.length<=ks.length * m
 | [],acc=>by simp [dO]
 |k::ks,acc=>by
  have e:dO ev b (k::ks) acc=(match ev b with
   |(.error w,l)=>(.error w,l)
   |(.ok v,l)=>((dO ev b ks (acc.set k (some v))).1,l++(dO ev b ks (acc.set k (some v))).2)):=rfl
  rw[e,List.length_cons,Nat.add_mul,Nat.one_mul];have g:=λ v=>nI f (ks:=ks) (acc:=acc.set k (some v));generalize z:ev b=h;induction h with
  |mk a d=>
   have c:=f;rw[z]at c;simp only at c
   induction a with
   |error w=>show d.length<=_;exact jI (.i W0 (.a W1 W2)) [.i W0 W2] (.l [1,1]) rfl c
   |ok v=>have:=g v;show(d++_).length<=_;exact aU List.length_append (wO (.i (.a W0 W1) (.a W2 W3)) [.i W0 W3,.i W1 W2] (.l [1,1,1]) rfl c this)
theorem u6:∀ {nodes:List ν} (_:∀b∈nodes,(ev b).2.length<=m) {p:Nat} {acc:List (Option α)},(bB ev row nodes p acc).2.length<=nodes.length * (row.length * m)
 | [],_,p,acc=>by simp [bB]
 |b::nodes,g,p,acc=>by
  have e:bB ev row (b::nodes) p acc=(match dO ev b (cF row p) acc with
   |(.error w,l)=>(.error w,l)
   |(.ok c,l)=>((bB ev row nodes (p+1) c).1,l++(bB ev row nodes (p+1) c).2)):=rfl
  have d:=nI (g b (.head _)) (ks:=cF row p) (acc:=acc);have j:(cF row p).length * m<=row.length * m:=Nat.mul_le_mul_right _ (by
   unfold cF;have:=List.length_filter_le (λ k=>row[k]?== some (p:Int)) (List.range row.length);rwa[List.length_range]at this)
  rw[e,List.length_cons,Nat.add_mul,Nat.one_mul];generalize z:dO ev b (cF row p) acc=o;induction o with
  |mk a f=>
   rw[z]at d;simp only at d
   induction a with
   |error w=>show f.length<=_;exact wO (.i W0 (.a W1 W2)) [.i W3 W2,.i W0 W3] (.l [1,1,1]) rfl j d
   |ok n=>have:=u6 (λ b h=>g b (.tail _ h)) (nodes:=nodes) (p:=p+1) (acc:=n) (row:=row);show(f++_).length<=_;exact aU List.length_append (Fx (.i (.a W0 W1) (.a W2 W3)) [.i W4 W3,.i W0 W4,.i W1 W2] (.l [1,1,1,1]) rfl j d this)
end
noncomputable def c8{ν α:Type}(ev:ν->Except Str α×List Int)(c:List (eY×ν))(given:Option Rg)(d:Int):Except Str (Rg×List (Option α))×List Int:=
 match cZ (c.map (·.1.ch)) given d with
 |none=>(.error ce,c.flatMap (·.1.marks))
 |some b=>if fv b > 24 then(.error se,c.flatMap (·.1.marks))else match mP (c.map (·.1.ch)) b with
  |none=>(.error ce,c.flatMap (·.1.marks))
  |some a=>((match (bB ev a (c.map (·.2)) 0 (List.replicate a.length none)).1 with| .error w=>.error w| .ok e=>.ok (b,e)),c.flatMap (·.1.marks)++(bB ev a (c.map (·.2)) 0 (List.replicate a.length none)).2)
noncomputable def cL(e:End):Except Str Int×List Int:=(if 0<=e.2/\e.2<=20 then .ok e.2 else .error ce,[e.1])
section
variable{ν α:Type}
noncomputable def dC(f:St->V->ν->Prop)(s:St)(told:Nat)(w:V)(e:Nat)(c:List (eY×ν))(d:List V):Prop:=
 ∃b,s[e]?= some (.list b)/\b.length=c.length/\d.length=c.length/\e≠told/\∀ (i:Nat) (p:eY×ν),c[i]?= some p->∃v u,b[i]?= some (.tup [v,u])/\d[i]?= some u/\jf s w p.1 v/\(∀a,v=.ref a->a≠told)/\f s u p.2
theorem jf.kp(h:jf s w c v)(k:Kp W s s')(d:∀a,v=.ref a->a∉W):jf s' w c v:=by
 induction c with
 |pos=>exact h
 |gc=>exact h
 |eG l=>rwa[ac h,a e b];try clear h;subst e;exact(aw a rfl (k.at b (d a rfl)))
theorem dC.kp(l:∀u x,nr s u x->nr s' u x)(h:dC nr s told w g f e)(k:Kp [told] s s'):dC nr s' told w g f e:=by rwa[fh h,d r q o b m,-h];refine(jk d (k.at r (by exact jh (b))) q o b (λ i p j=>?_));exact cv (m i p j) λ v u B A y c t=>(fN v u B A (y.kp k (λ a z=>by have:=c a z;exact jh (this))) c (l _ _ t))
structure qP(ps:List (eY×ν)):Prop where
 wf:WF (ps.map (·.1.ch))
 len:ps.length<=100
 rl:∀p∈ps,∀l,p.1=.eG l->l.length<=1000
 sm:∀p∈ps,∀l,p.1.ch=.eG l->∀r∈l,dZ r
noncomputable def kv(s:St)(a:V)(gs:Option (List Rg)):Prop:=match gs with
 |none=>a=.none
 |some l=>∃b,a=.ref b/\s[b]?= some (.list (l.map du))
theorem kv.kp(h:kv s b gs)(k:Kp W s s')(d:∀a,b=.ref a->a∉W):kv s' b gs:=by
 induction gs with
 |none=>exact h
 |some l=>rwa[ac h,c f e];try clear h;subst f;exact(aw c rfl (k.at e (d c rfl)))
noncomputable def fP(s:St)(t:Nat)(rs:List Rg)(g w:Nat):Prop:=∃a b c,s[t]?= some (.inst 29 a)∧a.lookup 16=some (.ref b)∧a.lookup 17=some (.ref g)∧a.lookup 8=some (.str "array")∧a.lookup 18=some (.bool false)∧s[b]?= some (.list c)∧c.length=rs.length∧(∀ (i:Nat) (r:Rg),rs[i]?= some r→∃d,c[i]?= some (.ref d)∧Sub s d r.1 r.2)∧b≠t∧
 ∃e f,s[g]?= some (.inst 30 e)∧e.lookup 6=some (.ref w)∧e.lookup 7=some (rangeT 0 20)∧s[w]?= some (.inst 29 f)∧f.lookup 8=some (.str "int")
noncomputable def lf(s:St)(t b:Nat):Prop:=∃a,s[t]?= some (.inst 29 a)/\a.lookup 16=some (.ref b)
theorem fP.kp(h:fP s t rs cp w)(q:Tl s told lg)(x:∀ix,lf s t ix->ix≠told)(k:Kp [told] s s'):fP s' t rs cp w:=by
 rwa[eW h,g ix p b c L J H G B A y l];try clear h;rwa[cv l,f1 Y f U Q e O,-l]
 have a:∀ {d:Nat} {o:d4},s[d]?= some o->(∀m,o≠ .list m)->d∉[told]:=λ h v=>(LW.one q).not h v;refine(m5 g ix p (k.at b (a b λ _ z=>bZ vm (z) rfl)) c L J H (k.at G (by exact jh (x ix (aw g b c)))) B (λ i r u=>?_) y ⟨f1,Y,k.at f (a f λ _ z=>bZ vm (z) rfl),U,Q,k.at e (a e λ _ z=>bZ vm (z) rfl),O⟩);exact ac (A i r u) λ d e1 j=>ac (id j) λ fd e3 _=>(aw d e1 (j.kp k (a e3 λ _ z=>bZ vm (z) rfl)))
noncomputable def Xx(n:Nat)(g:ν->Except Str α×List Int)(z:Nat->St->V->α->Prop)(r t o:Nat)(q:V)(j:Int)(told:Nat)(s:St)(c:List ν)(y:List V):Prop:=
 ∀ (l p k:Nat) (e:ν) (u:V) (b:St) (f m lo:Nat) (i:List V) (h:List Int),c[p]?= some e->y[p]?= some u->Kp [told] s b->Tl b told h->h.length+(g e).2.length<=1000000->b[f]?= some (.list i)->s.length<=f->k<i.length->lo<=b.length->f<lo->
   px (n+60) qO (kS r t o q j l f m (some (.int (k:Int))) (some (.int (p:Int))) (some u)) (λ x d=>x.1=.next/\x.2=kS r t o q j l f m (some (.int (k:Int))) (some (.int (p:Int))) (some u)/\
    ∃a v,(g e).1=.ok a/\z lo d v a/\d[f]?= some (.list (i.set k v))/\Tl d told (h++(g e).2)/\Kp [f,told] b d) (λ w d=>(g e).1=.error w/\Tl d told (h++(g e).2)/\Kp [f,told] b d) b
end
noncomputable def ti:List S:=[
 .ez (.c .Eq (.b .Add (.v 4) (.k (.int 1))) (.call (.k (.bi .len)) [(.t (.v 1) 16)])) [.ret (some (.call (.k (.cls 8)) [(.l [(.v 7)]),(.v 9)]))] [],
 .ez (.c .Eq (.v 9) (.l [])) [.ret (some (.call (.k (.fn 73)) [(.v 7),(.v 3),(.v 4),(.v 1)]))] [],
 .ret (some (.call (.k (.fn 26)) [(.v 7),(.v 9)]))]
noncomputable def qz(r t g:Nat)(h:V)(f:Int)(e d c b a:Option V):Env:=[some (.ref r),some (.ref t),some (.ref g),some h,some (.int f),e,d,c,b,a,none,none,none,none,none,none,none,none,none,none]
section
variable{ν α:Type}{n:Nat}{E:Str->St->Prop}{s:St}
theorem J4{nr:St->V->ν->Prop}{r nd tl told lim t U:Nat}{w gv:V}{uo:Int}{d:List (eY×ν)}{us:List V}{Y:List Int}{Q:V->St->Prop}
  (wo:Wo s r nd tl told lim) (ht:Tl s told Y) (B:dC nr s told w U d us) (hw:qP d) (mj:Y.length+(d.flatMap (·.1.marks)).length<=1000000)
  (h:∀g a,qQ g a (d.map (·.1.ch))->(∀vs,g[a]?= some (.list vs)->∀v i,.tup [.ref v,i]∈vs->s.length<=v)->Tl g told (Y++d.flatMap (·.1.marks))->Kp [told] s g->s.length<=a->Q (.ref a) g):
  pw ((SS (n+40)).ev (qz r t U gv uo none none none none none) (.comp [none,none,none,some 2,some 0] (.tup [(.call (.k (.fn 71)) [(.v 4),(.i (.i (.v 3) (.v 1)) (.k (.int 0)))]),(.v 1)]) [((.one 1),(.inr (none,(.call (.k (.bi .len)) [(.v 2)]))),[])])) Q E s:=by
 rwa[fh B,vs zf lC qo CY hv,-B];have dT:=hw.len;obtain ⟨N,H⟩:∃N,N=d.length:=⟨_,rfl⟩;have gl:∀ {Q E},wp (iu .len [.ref U]) Q E s=Q (.int (N:Int)) s:=by intro Q E;erw[len_list zf,lC,H];rfl
 erw[fJ]
 unfold qz;simp only[Hf,dJ,ax,ag,aL,ah,af,aq,ak,am,aj,aA,ai,ao,aB,aZ,gl,gf,cr (show -1000000<= (0:Int)by decide) (by decide),cr (show -1000000<= (N:Int)by exact B7) (Cf dT H),cP,Cz,iH];refine fB ?_
 erw[sK]
 refine nY fH (xs:=di 0 (N:Int)) (λ i o ρ g=>(∃x1,ρ=[none,x1,none,some (.ref U),some (.ref r)])/\Kp [told] s g/\Tl g told (Y++(d.take i).flatMap (·.1.marks))/\
   ∃os:List V,o=(List.range i).map (λ j=>.tup [(os[j]?).getD .none,.int (j:Int)])/\os.length=i/\(∀a,.ref a∈os->s.length<=a)/\∀ (j:Nat) (p:eY×ν),j<i->d[j]?= some p->∃v,os[j]?= some v/\oj g p.1.ch v)
  (λ i o x ρ g hx J=>?_) d.length 0 [] _ s (by rw[bS];exact jI (.k (.a (.c 0) W0) W1) [.k W2 W0,.o (.e (.l (.c 0) (.s (.t W2) (.c 0))) (.q (.t W1) (.s (.t W2) (.c 0)))) (.e (.l (.s (.t W2) (.c 0)) (.c 0)) (.k W1 (.c 0)))] (.s 0 (.s 3 (.l [0,1,0,1,1]) (.l [0,1,0,1])) (.s 3 (.l [0,0,1,1,0,1]) (.l [1,0,0,1,0,1]))) rfl H (Mine.L.bO _)) (oW ⟨none,rfl⟩ .refl (by simpa using ht) ⟨[],rfl,rfl,(λ a h=>(bQ (h))),(λ j p h=>by exfalso;exact IJ h)⟩) λ x g J=>?_
 ·rwa[ul J,dy k zc eK];try clear J;rwa[aW dy,x1 fO];try clear dy;obtain rfl:=fO;rwa[dR eK,os gU A e3 e4];try clear eK;obtain rfl:=gU
  rwa[aK (cS hx),Jh hi];rw[Int.zero_add]at Jh;subst Jh;have y:d[i]?= some (d[i]'(EC H hi)):=bT (EC H hi);generalize d[i]'(EC H hi)=p at y;rwa[cv (hv i p y),v u q1 q2 q3 q4 q5];have g1:∀ {Q E},wp (cK (.ref U) (.int (i:Int))) Q E g=Q (.tup [v,u]) g:=bL (k.at zf (by exact jh (CY))) q1;have tk:(d.take (i+1)).flatMap (·.1.marks)=(d.take i).flatMap (·.1.marks)++p.1.marks:=by erw[List.take_add_one,y];simp
  have wl:(Y++(d.take i).flatMap (·.1.marks)).length+p.1.marks.length<=1000000:=by
   have e:d.flatMap (·.1.marks)=(d.take (i+1)).flatMap (·.1.marks)++(d.drop (i+1)).flatMap (·.1.marks):=by rw[← List.flatMap_append,List.take_append_drop]
   rw[e,tk]at mj;simp only[List.length_append]at mj ⊢;exact MX mj
  simp only[fF,bt,aO,aN,ie,eJ,fG,jm,bX,ah,ax,ag,aL,af,aq,ak,am,aj,aA,aV,bU,bp,g1,cN,ai,ao,aB];rwa[c71 (wo.kp k (.one ht)) zc (q3.kp k (λ a z=>by have:=q4 a z;exact jh (this))) wl (λ a z=>q4 a z) (λ l z=>hw.rl p (List.mem_of_getElem? y) l z),aH v' h1 h2 h3 h4];simp only[aA,ah,af,aq,ak,am,aj,ai,ao,cJ,jO];refine(oW ⟨_,rfl⟩ (k.trans h3) (by rw[tk,← List.append_assoc];exact h2) ⟨os++[v'],?_,by simp [A],λ a O=>?_,λ j p' G Jr=>?_⟩)
  ·erw[List.range_succ,List.map_append]
   congr 1
   ·rwa[List.map_congr_left,j G];rw[List.mem_range]at G
    erw[List.getElem?_append_left (vA A G)];rfl
   ·simp [← A]
  ·rcases List.mem_append.mp O with O|O
   ·exact e3 a O
   ·rw[dF]at O;have:=h4 a O.symm;have:=k.1
    omega
  ·by_cases q:j<i
   ·rwa[ac (e4 j p' q Jr),oU w1 f];refine(aw oU (by exact aU (List.getElem?_append_left (vA A q)) w1) ?_);generalize m:p'.1.ch=TX;induction TX with
    |pos=>rw[m]at f;exact f
    |gc=>rw[m]at f;exact f
    |eG l=>
     rw[m]at f;rwa[ac f,b ip hb];try clear f;obtain rfl:=ip
     have:=e3 b (List.mem_of_getElem? w1);have:=bD ht;exact(aw b rfl (h3.at hb (by simp;omega)))
   ·have:j=i:=by exact MW G q
    subst this
    rw[y]at Jr;obtain rfl:=an (Jr)
    exact(aw v' (by erw[List.getElem?_append_right (by exact Fv A),A];simp) h1)
 ·rw[bS]at J;have eN:((N:Int) - 0).toNat=d.length:=by exact Hm H (Mine.L.bO _)
  rw[eN,List.take_length,List.nil_append]at J;rwa[ul J,_ k zc iB];try clear J;rwa[dR iB,os e1 A e3 e4,-iB]
  erw[m3,e1]
  rwa[bk (by rw[bo,List.length_range];exact MV dT),ay f1 k1 l1];refine h ay _ (cR _ f1 (by simp) (λ i c m=>?_)) (λ vs zb v i hm=>?_) (k1.bM zc) (k.trans k1.of) k.1
  ·rw[cg]at m;generalize B:d[i]?= TW;induction TW with
   |none=>rw[B]at m;exact aD (m)
   |some p=>
    rw[B]at m;obtain rfl:=an (m);have y:=(cw.mp B).1;rwa[ac (e4 i p y B),v w1 f];refine(aw v (by erw[cg,List.getElem?_range y];simp [w1]) ?_);show oj ay p.1.ch v;generalize m:p.1.ch=TV;induction TV with
    |pos=>rw[m]at f;exact f
    |gc=>rw[m]at f;exact f
    |eG l=>rw[m]at f;rwa[ac f,b d8 hb];try clear f;obtain rfl:=d8;exact(aw b rfl (k1.bM hb))
  ·rw[f1]at zb;cases zb
   rwa[ac (List.mem_map.mp hm),j G Op];rw[List.mem_range]at G;injection Op with Op;simp only[List.cons.injEq]at Op;have:os[j]?= some (.ref v):=by
    have hjo:j<os.length:=by exact vA A G
    rw[bT hjo]at Op ⊢;exact fM Op.1 rfl
   exact e3 v (List.mem_of_getElem? this)
end
noncomputable def cE(x:Int):Prop:= -100<=x/\x<=100
theorem vq(h:∀r∈rs,dZ r):∀b,jv rs=some b->dZ b:=by
 have i:∀ (rs:List Rg) (f:Option Rg),(∀r∈rs,dZ r)->(∀b,f=some b->dZ b)->∀b,rs.foldl dG f=some b->dZ b:=by
  intro rs
  induction rs with
  |nil=>intro f _ j b d;exact j b d
  |cons r rs u=>
   intro f m j b d;refine u (dG f r) (λ x v=>m x (.tail _ v)) (λ c a=>?_) b d;have e:=m r (.head _)
   induction f with
   |none=>obtain rfl:=an (a);exact e
   |some f=>
    have k:=j f rfl;by_cases g:r.1<=r.2
    ·by_cases l:f.1 > f.2
     ·rw[tA l g]at a;obtain rfl:=an (a);exact e
     ·rw[tB l g]at a;obtain rfl:=an (a);rwa[aK e,q t];try clear e;rwa[aK q,_ _];try clear q;rwa[aK t,_ _,-t]
      rwa[aK k,p o];try clear k;rwa[aK p,_ _];try clear p;rwa[aK o,_ _,-o]
      refine⟨⟨?_,?_⟩,⟨?_,?_⟩⟩<;> simp only<;> split<;> omega
    ·rw[mX g]at a;obtain rfl:=an (a);exact k
 exact i rs none h (λ b d=>aD (d))
theorem lT(t:d.length<=100)(q:∀l,.eG l∈d->∀r∈l,dZ r)(j:∀g,given=some g->cE g.1/\cE g.2)(f:cE low):∀b,cZ d given low=some b->dZ b:=by
 intro b e;unfold cZ at e
 split at e
 ·rwa[aK (j b e),m k];rwa[aK m,_ _];try clear m;rwa[aK k,_ _,-k]
  exact⟨⟨by omega,by omega⟩,⟨by omega,by omega⟩⟩
 ·have o:cE (eB given low):=by
   induction given with
   |none=>exact f
   |some g=>exact(j g rfl).1
  split at e
  ·refine vq (λ r a=>?_) b e;have:∀ (d:List Ch),(∀l,.eG l∈d->∀r∈l,dZ r)->∀r∈bj d,dZ r:=by
    intro d
    induction d with
    |nil=>intro _ r h;exact bQ (h)
    |cons c d p=>
     intro h r a;have i:=p (λ l f=>h l (.tail _ f)) r
     induction c with
     |pos=>exact i a
     |gc=>exact i a
     |eG l=>
      rcases List.mem_append.mp a with a|a
      ·exact h l (.head _) r a
      ·exact i a
   exact this d q r a
  ·obtain rfl:=an (e);rwa[aK o,_ _,-o];exact⟨⟨by show _<=eB given low;omega,by show eB given low<=_;omega⟩,⟨by show _<=eB given low+_ - 1;omega,by show eB given low+_ - 1<=_;omega⟩⟩
noncomputable def cn(gs:Option (List Rg))(d:Nat):Option Rg:=gs.bind (·[d]?)
section
variable{ν α:Type}{n:Nat}{E:Str->St->Prop}{s:St}
theorem QC{nr:St->V->ν->Prop}{r nd tl told lim t U cp wt d:Nat}{w A:V}{gs:Option (List Rg)}{h hi:Int}{rs:List Rg}{j:List (eY×ν)}{us:List V}{Y:List Int}{ev:ν->Except Str α×List Int}{VR:Nat->St->V->α->Prop}{Q:V->St->Prop}
  (wo:Wo s r nd tl told lim) (ht:Tl s told Y) (hp:dC nr s told w U j us) (hw:qP j) (hg:kv s A gs) (oH:∀a,A=.ref a->a≠told) (qp:∀l,gs=some l->d<l.length) (rp:∀l,gs=some l->∀g∈l,cE g.1/\cE g.2) (qm:cE h)
  (iT:fP s t rs cp wt) (lx:∀ix,lf s t ix->ix≠told) (NW:rs[d]?= some (h,hi)) (hd:d<=100)
  (EK:∀lo o aH v a W,VR lo o v a->Kp W o aH->(∀b∈W,b<lo)->VR lo aH v a)
  (V1:Xx n ev VR r t U A (d:Int) told s (j.map (·.2)) us)
  (mj:Y.length+(c8 ev j (cn gs d) h).2.length<=1000000)
  (hE:∀w q,(c8 ev j (cn gs d) h).1=.error w->Tl q told (Y++(c8 ev j (cn gs d) h).2)->Kp [told] s q->E w q)
  (hQ:∀b x O q a' lo x5 x6 x8,s.length<=lo->(c8 ev j (cn gs d) h).1=.ok (b,x)->q[a']?= some (.list O)->nu (VR lo) q O x->Tl q told (Y++(c8 ev j (cn gs d) h).2)->Kp [told] s q->s.length<=a'->
   px (n+64) ti (qz r t U A (d:Int) x5 x6 (some (du b)) x8 (some (.ref a'))) (ko Q) E q):
  pc (n+64) (.fn 74) [.ref r,.ref t,.ref U,A,.int (d:Int)] Q E s:=by
 refine(ba (ρ:=[some (.ref r),some (.ref t),some (.ref U),some (A),some (.int (d:Int)),none,none,none,none,none,none,none,none,none,none,none,none,none,none,none]) (by decide) rfl rfl).mpr ?_;show px (n+64) (.a (.one 5) (.comp [none,none,none,some 2,some 0] (.tup [(.call (.k (.fn 71)) [(.v 4),(.i (.i (.v 3) (.v 1)) (.k (.int 0)))]),(.v 1)]) [((.one 1),(.inr (none,(.call (.k (.bi .len)) [(.v 2)]))),[])])::_::_::_::_::_::ti)
  (qz r t U A (d:Int) none none none none none) _ E s
 have uc:=hw.len;have K3:(j.map (·.1.ch)).length<=100:=by rw[bo];exact uc
 have vR:∀l,Ch.eG l∈j.map (·.1.ch)->∀r∈l,dZ r:=λ l hl=>by exact ac (List.mem_map.mp hl) λ p hp e=>hw.sm p hp l e
 have nz:=lT K3 vR (given:=cn gs d) (low:=h) (λ g hg=>by
  induction gs with
  |none=>exact aD (hg)
  |some l=>exact rp l rfl g (List.mem_of_getElem? hg)) qm
 have hm:Y.length+(j.flatMap (·.1.marks)).length<=1000000:=by
  have:(j.flatMap (·.1.marks)).length<= (c8 ev j (cn gs d) h).2.length:=by
   unfold c8
   split
   ·exact Nat.le_refl _
   ·split
    ·exact Nat.le_refl _
    ·split
     ·exact Nat.le_refl _
     ·simp
  exact MU mj this
 erw[ae,az]
 rwa[J4 wo ht hp hw hm,o a tr tr2 t1 G al];have yt:=bD ht;rwa[eW (id (iT.kp ht lx G)),fs ix is i1 i2 i3 i4 i5 i6 i7 i8 i9 _];rwa[ac (i8 d (h,hi) NW),sd j1 j2];have g1:∀ {Q E},wp (cM (.ref t) 16) Q E o=Q (.ref ix) o:=dg i1 rfl i2;have g2:∀ {Q E},wp (cK (.ref ix) (.int (d:Int))) Q E o=Q (.ref sd) o:=bL i6 j1;unfold qz;simp only[aX,aO,aN,aa,ae,az,aV,ax,ag,aL,ah,bF,af,aq,ak,am,aj,ci,g1,bU,bp,g2,aA,ai,ao,aB];refine Xe j2 ?_;simp only[bU,ag,bp,cN,aX,aO,aN,aa,ae,az,ax,aL,ah,af,aq,ak,am,aj,aA,dB,aI,aS];have Ov:∀ {K:V->St->Prop} {ρ:Env} {m:Nat},(ρ[3]?).getD none=some A->(ρ[4]?).getD none=some (.int (d:Int))->K (hG (cn gs d)) o->wp (bz .Is A .none) (mc (kE (SS (m+2)) ρ (.k .none) K E) (kE (SS (m+2)) ρ (.i (.v 3) (.v 4)) K E)) E o:=by
  intro K ρ m e3 e4 z
  induction gs with
  |none=>
   have e:A=.none:=hg;subst e;have L:∀ {Q E},wp (bz .Is .none .none) Q E o=Q (.bool true) o:=gt rfl
   erw[L,aQ,gy,ag]
   exact z
  |some l=>
   rwa[ac (id hg),ga gU vU];subst gU;have L:∀ {Q E},wp (bz .Is (.ref ga) .none) Q E o=Q (.bool false) o:=gt rfl;have Ox:=qp l rfl;have Jv:=G.at vU (by exact jh (oH ga rfl));have sA:K (du l[d]) o:=by have e:cn (some l) d=some l[d]:=bT Ox;rw[e]at z;exact z
   have g3:∀ {Q E},wp (cK (.ref ga) (.int (d:Int))) Q E o=Q (du l[d]) o:=bL Jv (by erw[cg,bT Ox];rfl)
   erw[L,aJ,gy,aV,af,e3,aj,bU,af,e4,aj,bp,g3]
   exact sA
 refine Ov rfl rfl ?_;simp only[aA,ah,af,aq,ak,am,aj,ai,ao,aB];refine c22 tr hw.wf ?_;simp only[aX,aO,aN,aa,ae,bv,aI,af,aq,ak,am,aj,bU,ag,aS];generalize hb:cZ (j.map (·.1.ch)) (cn gs d) h=TU;induction TU with
 |none=>
  have L:∀ {Q E},wp (bz .Is (hG none) .none) Q E o=Q (.bool true) o:=gt rfl;have B:c8 ev j (cn gs d) h=(.error ce,j.flatMap (·.1.marks)):=by unfold c8;exact aU hb rfl
  simp only[L,aQ,c7,ae,cb,ax,ag,aL,ah,aA,ai,ao,aB];refine EN (hE _ o ?_ ?_ G)
  ·exact aU B rfl
  ·exact aU B t1
 |some b=>
  have L:∀ {Q E},wp (bz .Is (du b) .none) Q E o=Q (.bool false) o:=gt rfl;have e1:hG (some b)=du b:=rfl;rwa[bR ((wo.kp G (.one ht)).run),Z4 r1 r2 r3];have g4:∀ {Q E},wp (cM (.ref r) 29) Q E o=Q (.ref lim) o:=dg r1 rfl r3;simp only[e1,L,aJ,c7,aM,aa,ae,az,ax,ag,aL,ah,af,aq,ak,am,aj,aA,bF,ci,g4,ai,ao,aB];refine c24 (wo.kp G (.one ht)).lim tr (nz b hb) (mF (.i W0 (.c 200)) [.i W0 (.c 100)] (.l [1,1]) rfl K3) vR (λ z q H=>?_) (λ z hr q H=>?_) (λ z y q a' hr JH H EP=>?_)
  ·have B:c8 ev j (cn gs d) h=(.error se,j.flatMap (·.1.marks)):=by unfold c8;erw[hb];simp only;erw[if_pos z];rfl
   exact hE _ q (by exact aU B rfl) (by exact aU B (H.bM t1)) (G.trans H.of)
  ·have B:c8 ev j (cn gs d) h=(.error ce,j.flatMap (·.1.marks)):=by unfold c8;erw[hb];simp only;erw[if_neg z,hr];rfl
   exact hE _ q (by exact aU B rfl) (by exact aU B (H.bM t1)) (G.trans H.of)
  ·have B:c8 ev j (cn gs d) h=((match (bB ev y (j.map (·.2)) 0 (List.replicate y.length none)).1 with| .error w=>.error w| .ok x=>.ok (b,x)),j.flatMap (·.1.marks)++(bB ev y (j.map (·.2)) 0 (List.replicate y.length none)).2):=by unfold c8;erw[hb];simp only;(erw[if_neg z,hr])<;> rfl
   rwa[aK (jK hr),rl rr];rw[bo]at rr;have Ir:jH b<=24:=by rw[fi]at z;show(b.2 - b.1+1).toNat<=24;exact Hl z
   have J:=G.trans H.of;rwa[fh hp,vs zf lC qo CY hv,-hp];rw[B]at mj hE hQ;simp only at mj hE hQ;have LP:=G.1;simp only[aX,aO,aN,aa,ae,az,ax,ag,aL,ah,af,ak,am,aj,aA,aq,ai,ao,aB];refine c72 (ν:=ν) (α:=α) (nodes:=j.map (·.2)) (us:=us) (vs:=vs) (ev:=ev) (VR:=VR) (row:=y) (told:=told) (lg:=Y++j.flatMap (·.1.marks)) (J.at zf (by exact jh (CY))) (by rw[lC];simp) (by rw[qo];simp) (λ p u hu=>?_) JH (H.bM t1) CY (MT yt EP LP) (by rw[bo];exact MS uc) (MR rl Ir) (by rw[bo];exact rr) EK
    (λ p k nd u bh f pl lo O z9 h1 h2 h3 h4 h5 h6 h7=>V1 _ p k nd u bh f pl lo O z9 h1 h2 (J.trans h3) h4 h5 h6 (Nat.le_trans J.1 h7)) (by rw[List.length_append]at mj ⊢;exact MQ mj) (λ x O bh a'' lo F5 kM wQ nQ hH kk A3=>?_) (λ w' bh Vl hH kk=>?_)
   ·have KS:p<j.length:=by exact fM qo ((cw.mp hu).1)
    rwa[cX (hv p j[p] (bT KS)),v u' e1 e2 _];rw[hu]at e2;obtain rfl:=an (e2);exact⟨v,e1⟩
   ·simp only[aX,aO,aN,aa];exact hQ b x O bh a'' lo _ _ _ (by have:=J.1;exact Cd F5 this) (by rw[kM]) wQ nQ (by rw[← List.append_assoc];exact hH) (J.trans kk) (by have:=J.1;exact Cd A3 this)
   ·exact hE w' bh (by rw[Vl]) (by rw[← List.append_assoc];exact hH) (J.trans kk)
end
noncomputable def K7:Nat->St->V->Int->Prop:=λ _ _ v i=>v=.int i
noncomputable def kI(w:V):St->V->End->Prop:=λ _ u e=>u=iV w e
theorem v9(r t g:Nat)(h:V)(c:Int)(d f e:Nat)(b a i:Option V):kS r t g h c d f e b a i=[some (.ref r),some (.ref t),some (.ref g),some h,some (.int c),some (.ref d),some (.ref f),some (.ref e),b,a,i,none,none,none,none,none]:=rfl
theorem wK{s:St}{b:List V}{l:List Int}{lo:Nat}(h:nu (K7 lo) s b (l.map some)):b=bC (l.map some):=by
 rwa[aK h,d c,-h];rwa[List.ext_getElem?,k];generalize a:(l.map some)[k]?= j;induction j with
 |none=>
  have:=List.getElem?_eq_none_iff.mp a
  rw[List.getElem?_eq_none (by exact jI (.i W0 W1) [.k W0 W2,.i W2 W1] (.l [1,1,0,1]) rfl d this),bC,cg,a];rfl
 |some x=>
  rwa[ac (c k x a),v f e];have:∃y,x=some y:=by
   rw[cg]at a;generalize z:l[k]?= m;induction m with
   |none=>rw[z]at a;exact aD (a)
   |some y=>rw[z]at a;obtain rfl:=an (a);exact⟨y,rfl⟩
  rwa[aW this,y g];try clear this;obtain rfl:=g
  rw[f,bC,cg,a,show v=.int y from e];rfl
theorem fT{f α:Type}{i:f->Except Str α×List Int}{h:List (eY×f)}{given:Option Rg}{e:Int}{b:Rg}{d:List (Option α)}(a:(c8 i h given e).1=.ok (b,d)):∃l:List α,d=l.map some/\l.length=jH b/\ ¬ fv b > 24:=by
 unfold c8 at a
 split at a
 ·exact bZ Except.ctorIdx (a) rfl
 ·split at a
  ·exact bZ Except.ctorIdx (a) rfl
  ·rename_i k
   split at a
   ·exact bZ Except.ctorIdx (a) rfl
   ·rename_i c o;simp only at a;generalize hz:(bB i c (h.map (·.2)) 0 (List.replicate c.length none)).1=u;induction u with
    |error w=>rw[hz]at a;exact bZ Except.ctorIdx (a) rfl
    |ok j=>rw[hz]at a;injection a with a;injection a with t r;subst t r;rwa[aK (jK o),m g];rw[bo]at g;exact ac (u7 (by rw[bo];exact g) hz) λ l q p=>(cR l q (by erw[p,m];rfl) k)
section
variable{n:Nat}{E:Str->St->Prop}{s:St}
theorem C8
  (Y:Wo s r nd tl told lim) (j:Tl s told lg) (hu:∀ (p:Nat) (e:End),b[p]?= some e->us[p]?= some (iV w e)) (iT:fP s t rs cp wt) (lx:∀g,lf s t g->g≠told) (hd:rs.length<=d+1) (sC:d<=100):
  Xx n cL K7 r t pa gv (d:Int) told s b us:=by
 intro sp p k e u a f pl lo ws z9 h1 h2 G B h5 h6 A h8 h9 HD;have U:=hu p e h1;rw[h2]at U;obtain rfl:=an (U);rwa[eW (id (iT.kp j lx G)),fs g is x i2 i3 i4 i5 i6 i7 i8 i9 O];rwa[cv O,f1 H L c2 c3 J c5,-O];have g1:∀ {Q E},wp (cM (.ref t) 16) Q E a=Q (.ref g) a:=dg x rfl i2;have g2:∀ {Q E},wp (cM (.ref t) 17) Q E a=Q (.ref cp) a:=dg x rfl i3;obtain ⟨N,y⟩:∃N,N=rs.length:=⟨_,rfl⟩;have gl:∀ {Q E},wp (iu .len [.ref g]) Q E a=Q (.int (N:Int)) a:=by intro Q E;erw[len_list i6,i7,y];rfl
 have d0:decide ((d:Int)+1< (N:Int))=false:=bA (by exact MP hd y);rw[v9];unfold qO;simp only[ae,bv,aI,bG,af,aq,ak,am,aj,bU,ag,cz,dp,ax,aL,ah,bF,ci,g1,aA,ai,ao,aB,aZ,gl,aS,la,d0,aJ,c7,fp,g2];have l:=bD j;rwa[c62 (Y.kp G (.one j)) B (by simpa [cL] using h5),ay m c l1];have q:∀ {d:Nat} {o:d4},a[d]?= some o->(∀vs,o≠ .list vs)->d∉[told]:=λ h ho=>(LW.one B).not h ho;have q1:=c.at L (q L λ _ z=>bZ vm (z) rfl);have q4:=c.at J (q J λ _ z=>bZ vm (z) rfl);simp only[aA,ai,ao,aB];refine c60 q1 c2 q4 c5 c3 (λ i=>?_) (λ i=>?_)
 ·have hf:=c.at h6 (by simp;exact MO A l)
  rwa[kC hf (by exact B8) (by exact Cg h8),aH H v l2]
  simp only[aP,aa,aM]
  refine (bN trivial trivial ⟨e.2, .int e.2, ?_, rfl, by rw [H, Int.toNat_natCast], v.at m (by simp; exact vz A l), (c.wide (by simp)).trans (v.wide (by simp))⟩)
  unfold cL;erw[if_pos i];rfl
 ·refine(bN ?_ m (c.wide (by exact Bt)));unfold cL;erw[if_neg i];rfl
theorem QB{r nd tl told A t Y cp wt d:Nat}{w O:V}{gs:Option (List Rg)}{j hi:Int}{rs:List Rg}{ps:List (eY×End)}{us:List V}{lg:List Int}{Q:V->St->Prop}
  (U:Wo s r nd tl told A) (H:Tl s told lg) (L:dC (kI w) s told w Y ps us) (hw:qP ps) (hg:kv s O gs) (oH:∀a,O=.ref a->a≠told) (qp:∀l,gs=some l->d<l.length) (rp:∀l,gs=some l->∀g∈l,cE g.1/\cE g.2) (qm:cE j)
  (G:fP s t rs cp wt) (z:∀o,lf s t o->o≠told) (NW:rs[d]?= some (j,hi)) (Ak:rs.length=d+1) (hd:d<=100)
  (mj:lg.length+(c8 cL ps (cn gs d) j).2.length<=1000000)
  (hE:∀w f,(c8 cL ps (cn gs d) j).1=.error w->Tl f told (lg++(c8 cL ps (cn gs d) j).2)->Kp [told] s f->E w f)
  (hQ:∀b m v f,(c8 cL ps (cn gs d) j).1=.ok (b,m)->jq s.length f v [b] (bC m)->Tl f told (lg++(c8 cL ps (cn gs d) j).2)->Kp [told] s f->Q v f):
  pc (n+64) (.fn 74) [.ref r,.ref t,.ref Y,O,.int (d:Int)] Q E s:=by
 refine QC (VR:=K7) U H L hw hg oH qp rp qm G z NW hd (λ _ _ _ _ _ _ h _ _=>h) (C8 (w:=w) U H (λ p e x=>?_) G z (MN Ak) hd) mj hE λ b m ws f a' lo x5 x6 x8 F5 hr wQ nQ hH k al=>?_
 ·rwa[fh L,vs _ _ _ _ hv,-L];rw[cg]at x;generalize J:ps[p]?= TP;induction TP with
  |none=>rw[J]at x;exact aD (x)
  |some q=>
   rw[J]at x;obtain rfl:=an (x);rwa[cv (hv p q J),v u _ e2 _ _ e5]
   erw[e2,show u=iV w q.2 from e5];rfl
 ·rwa[eW (id (G.kp H z k)),fs o is i1 i2 i3 i4 i5 i6 i7 i8 i9 _];have g1:∀ {Q E},wp (cM (.ref t) 16) Q E f=Q (.ref o) f:=dg i1 rfl i2;obtain ⟨N,hN⟩:∃N,N=rs.length:=⟨_,rfl⟩;have gl:∀ {Q E},wp (iu .len [.ref o]) Q E f=Q (.int (N:Int)) f:=by intro Q E;erw[len_list i6,i7,hN];rfl
  have d0:∀ {Q E},wp (bz .Eq (.int ((d:Int)+1)) (.int (N:Int))) Q E f=Q (.bool true) f:=iM (by erw[AF];congr 1;exact bq (MM Ak hN));unfold ti qz;simp only[ae,bv,aI,bG,af,aq,ak,am,aj,bU,ag,cz,dp,ax,aL,ah,bF,ci,g1,aA,ai,ao,aB,aZ,gl,aS,d0,aQ,c7,aT,bx,b8];rwa[bk (by simp),ay f1 B l1];simp only[aA,ah,af,aq,ak,am,aj,ai,ao,aB];rwa[D4,aH f2 y l2];simp only[br,aF,aG];have kl:=k.1;have kM:ws=bC m:=by rwa[ac (fT hr),l cH _];subst cH;exact wK nQ
  refine hQ b m _ aH hr (kK _ _ _ rfl (jI (.i W0 W1) [.k W1 (.a W2 (.c 1)),.i W0 W2] (.l [1,0,1,1]) rfl l1 kl) ?_ al f2 (y.bM f1) ?_) ((B.trans y).bM hH) (k.trans (B.trans y).of)
  ·exact ML kl
  ·erw[(B.trans y).bM wQ,kM];rfl
end
noncomputable def ft(gs:Option (List Rg))(rs:List Rg)(d:Nat):List Rg:=match gs with
 |some l=>l.drop (d+1)
 |none=>(rs.drop (d+1)).map fun(_:Rg)=>((1,0):Rg)
noncomputable def Se(lo:Nat)(s:St)(v:V)(r:my):Prop:=jq lo s v [r.1] (bC r.2)/\(∃l:List Int,r.2=l.map some)/\r.2.length=jH r.1/\jH r.1<=24
noncomputable def ju(w:V)(told t:Nat):St→V→List (eY×End)→Prop:=fun s u c=>∃a b,u=.tup [.str "row",.ref t,.int 1,.ref a]∧dC (kI w) s told w a c b
noncomputable def dN(c:List (eY×List (eY×End)))(gs:Option (List Rg))(rs:List Rg)(e d:Int):Except Str (List Rg×List (Option Int))×List Int:=
 ((match (c8 (λ p=>c8 cL p (cn gs 1) d) c (cn gs 0) e).1 with
  | .error w=>.error w
  | .ok (b,a)=>if a=[]then .ok (b::ft gs rs 0,[])else match lK b (a.filterMap id)with|none=>.error ce|some x=>.ok x),(c8 (λ p=>c8 cL p (cn gs 1) d) c (cn gs 0) e).2)
section
variable{n:Nat}{E:Str->St->Prop}{s:St}
theorem c73(U:kv s Y gs)(iT:fP s t rs cp wt)(hd:d<=100)(hr:rs.length<=100)(rt:∀l,gs=some l->l.length<=100)
  (h:∀f v,jq s.length f v (b::ft gs rs d) []->Kp [] s f->Q v f):pc (n+40) (.fn 73) [du b,Y,.int (d:Int),.ref t] Q E s:=by
 obtain ⟨R,hR⟩:∃R:List S,R=[.ret (some (.call (.k (.cls 8)) [(.b .Add (.l [(.v 0)]) (.call (.k (.bi .list)) [(.v 4)])),(.l [])]))]:=⟨_,rfl⟩;have m:∀ (j:St) (x:Nat),Kp [] s j->j[x]?= some (.list ((ft gs rs d).map du))->(ft gs rs d).length<=100->px (n+40) R
   [some (du b),some Y,some (.int (d:Int)),some (.ref t),some (.ref x),none,none] (ko Q) E j:=by
  intro j x k z O
  erw[hR]
  simp only[ae,aT,ax,ag,aL,ah,bG,bx,af,ak,am,aj,aA,ai,ao,b8];rwa[bk (by simp),aH f2 y w];simp only[bU,ax,ag,aL,ah,af,aq,ak,am,aj,aA,ai,ao,aB,aZ];rwa[nB (y.bM z),bf f3 k3 B];simp only[cz];rwa[sV (k3.bM f2) f3 (by rw[bo];simp;exact mF (.i (.a (.c 1) W0) (.c 1000000)) [.i W0 (.c 100)] (.l [1,1]) rfl O),bK f4 k4 l4];simp only[aA,ah,bx,ai,b8];rwa[bk (by simp),cI f5 k5 l5];simp only[aA,ai,ao,aB];rwa[D4,dj f6 H l6];simp only[br,aF,aG];have G:=k.1;exact h dj _ (kK _ _ _ rfl (by exact KO (.i W0 W1) [.k W2 (.a W3 (.c 1)),.k W4 (.a W2 (.c 1)),.k W5 (.a W4 (.c 1)),.k W1 (.a W5 (.c 1)),.i W0 W3] (.l [1,0,1,0,1,0,1,0,1,1]) rfl w B l4 l5 G) (by exact wO (.i W0 W1) [.k W2 (.a W3 (.c 1)),.k W1 (.a W2 (.c 1)),.i W0 W3] (.l [1,0,1,0,1,1]) rfl w B G) (by exact Fx (.i W0 W1) [.k W2 (.a W3 (.c 1)),.k W4 (.a W2 (.c 1)),.k W1 (.a W4 (.c 1)),.i W0 W3] (.l [1,0,1,0,1,0,1,1]) rfl w B l4 G) f6 (by erw[(k5.trans H).bM f4];rfl) (H.bM f5)) (k.trans (((((y.trans k3).trans k4).trans k5)).trans H))
 refine(ba (ρ:=[some (du b),some (Y),some (.int (d:Int)),some (.ref t),none,none,none]) (by decide) rfl rfl).mpr ?_;rw[show PH.body=.a (.one 4) (.ite (.c .IsNot (.v 1) (.k .none)) (.sl (.v 1) (some (.b .Add (.v 2) (.k (.int 1)))) none) (.comp [none,none] (.tup [(.k (.int 1)),(.k (.int 0))]) [((.one 1),(.inl (.sl (.t (.v 3) 16) (some (.b .Add (.v 2) (.k (.int 1)))) none)),[])]))::
  R from by exact aU hR rfl]
 have od:iZ ((d:Int)+1)=true:=cr (by exact mF (.l (.g (.c 1000000)) (.a (.t W0) (.c 1))) [] (.l [1]) rfl) (by exact mF (.l (.a (.t W0) (.c 1)) (.c 1000000)) [.i W0 (.c 100)] (.l [1,1]) rfl hd);have td:((d:Int)+1).toNat=d+1:=by exact iA (.k W0 (.a W1 (.c 1))) [.o (.e (.l (.c 0) (.a (.t W1) (.c 1))) (.q (.t W0) (.a (.t W1) (.c 1)))) (.e (.l (.a (.t W1) (.c 1)) (.c 0)) (.k W0 (.c 0)))] (.s 0 (.s 2 (.l [0,0,1,1]) (.l [1])) (.s 2 (.l [0,1,0,1]) (.l [0,1,0,1]))) rfl (Mine.L.bO _)
 erw[ae,az]
 induction gs with
 |some l=>
  rwa[ac U,ga bw vU];try clear U;obtain rfl:=bw
  have O:=rt l rfl;have fC:∀ {Q E},wp (bz .IsNot (.ref ga) .none) Q E s=Q (.bool true) s:=fy (r:=false) rfl;simp only[dB,aI,af,aq,ak,am,aj,bU,ag,aS,fC,aQ,gy,Dz,bG,cz,dp,Cw];rwa[G9 vU (by exact MK) od,j u J l1];simp only[aX,aO,aN,aa];refine m j s.length J ?_ ?_
  ·erw[u,td];simp [ft]
  ·simp [ft];exact MJ O
 |none=>
  have e:=U;subst e;rwa[eW iT,fs ix is i1 i2 i3 i4 i5 i6 i7 i8 i9 _,-iT];have g1:∀ {Q E},wp (cM (.ref t) 16) Q E s=Q (.ref ix) s:=dg i1 rfl i2;have fC:∀ {Q E},wp (bz .IsNot .none .none) Q E s=Q (.bool false) s:=fy (r:=true) rfl;simp only[dB,aI,af,aq,ak,am,aj,bU,ag,aS,fC,aJ,gy]
  erw[fJ]
  simp only[kb,Dz,bF,af,aq,ak,am,aj,ci,g1,bU,bG,ag,cz,dp,Cw]
  rwa[G9 i6 (by exact MK) od,j u J l1]
  rw [td] at u
  simp only[iF,iH]
  refine fB (eO u ?_)
  have dT:(is.drop (d+1)).length=rs.length - (d+1):=by erw[List.length_drop,i7];rfl
  refine en fH (λ i o A f=>f=j/\(∃x1,A=[none,x1])/\o=List.replicate i (du (1,0))) (λ i o A f Pl=>by rwa[aK Pl,e _,-Pl];exact aU e u) (λ i o v A f hv p=>?_) _ 0 [] _ j (by exact Nat.zero_add _) (Nat.zero_le _) (bN rfl ⟨none,rfl⟩ rfl) λ x f p=>?_
  ·rwa[cA p,b7 cH dy];try clear p;obtain rfl:=b7;rwa[aW cH,x1 eK];try clear cH;obtain rfl:=eK;obtain rfl:=dy
   simp only[fF,bt,aO,aN,ie,eJ,fG,jm,bX,ah,ag,aA,ai,ao,cJ,jO];exact(bN trivial ⟨_,rfl⟩ (by exact aU List.replicate_succ' rfl))
  ·rwa[cA p,fO _ z];try clear p;obtain rfl:=fO
   rw[List.nil_append]at z
   erw[m3,z,dT]
   rwa[bk (by exact aU List.length_replicate (jI (.i W0 (.c 1000000)) [.i W1 (.c 100),.o (.e (.i (.a W2 (.c 1)) W1) (.k (.a W0 (.a W2 (.c 1))) W1)) (.e (.i W1 (.a W2 (.c 1))) (.k W0 (.c 0)))] (.s 2 (.l [0,1,0,1,1]) (.l [0,1,0,1])) rfl hr (Mine.L.uT _ _))),aH f2 y w];simp only[aX,aO,aN,aa];refine m aH f.length (J.trans y) ?_ ?_
   ·erw[f2];simp [ft,du,List.map_const']
   ·simp [ft];exact MJ hr
end
section
variable{n:Nat}{E:Str->St->Prop}{s:St}
theorem Kt:∀lo c d v a W,Se lo c v a->Kp W c d->(∀b∈W,b<lo)->Se lo d v a:=λ lo c d v a W ⟨g,f⟩ k e=>⟨g.kp k e,f⟩
theorem F9
  (wo:Wo s r nd tl told lim) (m:Tl s told lg) (hp:dC (ju w told t) s told w pa x us) (hw:∀p∈x,qP p.2) (hg:kv s gv gs) (oH:∀a,gv=.ref a->a≠told) (qp:∀l,gs=some l->l.length=2) (rp:∀l,gs=some l->∀g∈l,cE g.1/\cE g.2) (qm:cE J)
  (O:fP s t [(l0,h0),(J,h1)] cp wt) (H:∀d,lf s t d->d≠told):
  Xx (n+7) (λ p=>c8 cL p (cn gs 1) J) Se r t pa gv ((0:Nat):Int) told s (x.map (·.2)) us:=by
 intro sp p k q u e f pl lo ws z9 o e2 i h4 h5 h6 h7 h8 h9 HD;have yt:=bD m;obtain ⟨c,U,hq⟩:∃c,x[p]?= some c/\c.2=q:=by
  rw[cg]at o;generalize z:x[p]?= TO;induction TO with
  |none=>rw[z]at o;exact aD (o)
  |some c=>rw[z]at o;obtain rfl:=an (o);exact(aw c rfl rfl)
 rwa[fh hp,vs _ _ _ _ hv,-hp];rwa[cv (hv p c U),v' u' _ a2 _ _ bw];rwa[cO bw,XT ZT b7 a5];try clear bw;obtain rfl:=b7
 rw[e2]at a2;obtain rfl:=an (a2);subst hq;have Xm:=dC.kp (s:=s) (s':=e) (λ _ _ h=>h) a5 i;rwa[eW (id (O.kp m H i)),fs d is i1 i2 i3 i4 i5 i6 i7 i8 i9 _];have g1:∀ {Q E},wp (cM (.ref t) 16) Q E e=Q (.ref d) e:=dg i1 rfl i2;have gl:∀ {Q E},wp (iu .len [.ref d]) Q E e=Q (.int 2) e:=by intro Q E;erw[len_list i6,i7];rfl
 have d0:decide ((((0:Nat):Int))+1<2)=true:=rfl;have dd:(((0:Nat):Int))+1=((1:Nat):Int):=rfl;have C4:∀d,lf e t d->d≠told:=λ uF ⟨ef,z1,Y⟩=>by rwa[cy (id O),YZ Ry _ B y2 _];have y3:=i.at B ((LW.one m).not B λ _ z=>bZ vm (z) rfl);rw[z1]at y3;obtain rfl:=(d4.inst.inj (an (y3))).2;rw[Y]at y2;obtain rfl:=V.ref.inj (an (y2));exact H uF (aw _ B Y)
 rw[v9];unfold qO;simp only[ae,bv,aI,bG,af,aq,ak,am,aj,bU,ag,cz,dp,ax,aL,ah,bF,ci,g1,aA,ai,ao,aB,aZ,gl,aS,la,d0,aQ,c7,fp,aV,bp,mf]
 erw[dd]
 refine QB (gs:=gs) (hi:=h1) (rs:=[(l0,h0),(J,h1)]) (ps:=c.2) (wo.kp i (.one m)) h4 Xm (hw c (List.mem_of_getElem? U)) (hg.kp i (λ a z=>by have:=oH a z;exact jh (this))) oH (λ l z=>by erw[qp l z];decide) rp qm (O.kp m H i) C4 rfl rfl (by decide) h5 (λ w' ay A G y=>?_) (λ b acc v ay A av G y=>?_)
 ·exact(bN A G (y.wide (by exact Bt)))
 ·rwa[bR (fT A),l cH lC qo];obtain rfl:=cH
  have hf:=y.at h6 (by simp;exact MO h7 yt)
  simp only[lu,af,aq,ak,am,aj,ls,nO]
  rwa[kC hf (by exact B8) (by exact Cg h8),aH f2 L l3]
  simp only[aP,aa,aM]
  refine (bN trivial trivial ⟨_, v, A, (oW ((av.low h9).kp L (by simp; exact iA (.j W0 W1) [.j W0 W1] (.l [1,1]) rfl HD)) ⟨l, rfl⟩ (by simp [lC]) (by rw [fi] at qo; show (b.2 - b.1 + 1).toNat ≤ 24; exact Hl qo)), by rw [f2, Int.toNat_natCast], L.at G (by simp; exact vz h7 yt), (y.wide (by simp)).trans (L.wide (by simp))⟩)
theorem Xd
  (wo:Wo s r nd tl told lim) (U:Tl s told lg) (hp:dC (ju w told t) s told w pa u us) (hw:qP u) (Ai:∀p∈u,qP p.2) (hg:kv s gv gs) (oH:∀a,gv=.ref a->a≠told) (qp:∀l,gs=some l->l.length=2) (rp:∀l,gs=some l->∀g∈l,cE g.1/\cE g.2) (C3:cE o) (lC:cE m)
  (iT:fP s t [(o,B),(m,J)] cp wt) (lx:∀O,lf s t O->O≠told)
  (mj:lg.length+(dN u gs [(o,B),(m,J)] o m).2.length<=1000000)
  (hE:∀w f,(dN u gs [(o,B),(m,J)] o m).1=.error w->Tl f told (lg++(dN u gs [(o,B),(m,J)] o m).2)->Kp [told] s f->E w f)
  (hQ:∀x v f,(dN u gs [(o,B),(m,J)] o m).1=.ok x->jq s.length f v x.1 (bC x.2)->Tl f told (lg++(dN u gs [(o,B),(m,J)] o m).2)->Kp [told] s f->Q v f):
  pc (n+71) (.fn 74) [.ref r,.ref t,.ref pa,gv,.int ((0:Nat):Int)] Q E s:=by
 rwa[QC (n:=n+7) (d:=0) (hi:=B) (VR:=Se) (ev:=λ p=>c8 cL p (cn gs 1) m) wo U hp hw hg oH (λ l z=>by erw[qp l z];decide) rp C3 iT lx rfl (by decide) Kt (F9 wo U hp Ai hg oH qp rp lC iT lx) mj (λ w' f hr t1 k=>hE w' f (by unfold dN;exact aU hr rfl) t1 k),b acc ws f a' lo x5 x6 x8 F5 hr wQ nQ hH k al];rwa[bR (fT hr),e dy Ol F6];subst dy;have nb:jH b<=24:=by rw[fi]at F6;show(b.2 - b.1+1).toNat<=24;exact Hl F6
 have yt:=bD U;rwa[eW (id (iT.kp U lx k)),fs O is i1 i2 i3 i4 i5 i6 i7 i8 i9 _];have g1:∀ {Q E},wp (cM (.ref t) 16) Q E f=Q (.ref O) f:=dg i1 rfl i2;have gl:∀ {Q E},wp (iu .len [.ref O]) Q E f=Q (.int 2) f:=by intro Q E;erw[len_list i6,i7];rfl
 have d0:∀ {Q E},wp (bz .Eq (.int (((0:Nat):Int)+1)) (.int 2)) Q E f=Q (.bool false) f:=iM rfl;have wl:ws.length=e.length:=by erw[nQ.1];simp
 have L:(dN u gs [(o,B),(m,J)] o m).1=if e=[]then .ok (b::ft gs [(o,B),(m,J)] 0,[])else match lK b e with|none=>.error ce|some x=>.ok x:=by
  unfold dN
  erw[hr]
  simp only[List.map_eq_nil_iff,List.filterMap_map];have:List.filterMap (id∘some) e=e:=by
   have:(id∘some:my->Option my)=some:=rfl
   erw[this,List.filterMap_some];rfl
  (erw[this])<;> rfl
 unfold ti qz;simp only[ae,bv,aI,bG,af,aq,ak,am,aj,bU,ag,cz,dp,ax,aL,ah,bF,ci,g1,aA,ai,ao,aB,aZ,gl,aS,d0,aJ,c7,aM,aa,bx,b8];rwa[bk (by simp),ay f1 H X2];have hc:∀ {Q E},wp (bz .Eq (.ref a') (.ref f.length)) Q E ay=Q (.bool (decide (e=[]))) ay:=by
  refine iM (un (H.bM wQ) f1 (λ h=>?_) (λ h=>?_) (λ h=>?_))
  ·have:ws=[]:=List.eq_nil_of_length_eq_zero h;subst this;have:e=[]:=List.eq_nil_of_length_eq_zero wl.symm;subst this;rfl
  ·rwa[bA,z,z];exact h wl
  ·have:=bD wQ;exfalso;exact iA .z [.k W0 W1,.j W0 W1] (.l [0,1,1]) rfl h this
 have G:=k.trans H.of;have sl:=k.1;simp only[aS,hc];by_cases q:e=[]
 ·rw[if_pos q]at L;subst q;simp only[decide_true,aQ,c7,ae,aT,ax,ag,aL,ah,af,aq,ak,am,aj,aA,ai,ao,aB];rwa[c73 (d:=0) (hg.kp G (λ a z=>by have:=oH a z;exact jh (this))) (iT.kp U lx G) (by decide) (by simp) (λ l z=>by erw[qp l z];decide),Y v av A];simp only[br,aF,aG];exact hQ _ v Y L (av.low G.1) (A.bM (H.bM hH)) (G.trans A.of)
 ·rw[if_neg q]at L;simp only[bA q,aJ,c7,aM,aa,ae,aT,ax,ag,aL,ah,af,aq,ak,am,aj,aA,ai,ao,aB];refine c26 (rows:=e) (lo:=lo) (H.bM wQ) wl q (by have:e.length=jH b:=Ol;exact MR Ol nb) (λ x hx=>?_) (λ i x hx=>?_) (λ x Y v hj av A=>?_) (λ Y hj A=>?_)
  ·obtain ⟨i,hi,rfl⟩:=List.getElem_of_mem hx;rwa[ac (nQ.2 i (some e[i]) (by erw[cg,bT hi];rfl)),v _ z];rwa[ul z,_ _ z1 z2,-z];exact iA (.i W0 (.c 1000)) [.k W0 W1,.i W1 (.c 24)] (.l [1,1,0,1]) rfl z1 z2
  ·exact ac (nQ.2 i (some x) (by erw[cg,hx];rfl)) λ v y z=>(aw v y (z.1.kp H (λ _ h=>bQ (h))))
  ·rw[hj]at L;simp only[br,aF,aG];exact hQ x v Y L (av.low G.1) (A.bM (H.bM hH)) (G.trans A.of)
  ·rw[hj]at L;exact hE _ Y L (A.bM (H.bM hH)) (G.trans A.of)
end
section
variable{n:Nat}{E:Str->St->Prop}{s:St}
theorem DY{l:Nat}{f:List V}{rs:List Rg}{Q:V->St->Prop}(t:s[l]?= some (.list f))(q:f.length=rs.length)(A:∀ (i:Nat) (r:Rg),rs[i]?= some r->∃d,f[i]?= some (.ref d)/\Sub s d r.1 r.2)(z:rs.length<=100)
  (h:∀a,a[s.length]?= some (.list (rs.map du))->Kp [] s a->a.length=s.length+1->Q (.ref s.length) a):
  pw (sf (iq (SS (n+20)) (gq (SS (n+20)) (.call (.k (.fn 51)) [(.v 1)]) []) (.one 1) [] (.inl l) [none,none,none])) (tO Q E) E s:=by
 refine fB (eO t ?_);refine en fH (λ i o c a=>a=s/\(∃g,c=[none,g,none])/\o=(rs.take i).map du) (λ i o c a y=>by rwa[aK y,e _,-y];exact aU e t) (λ i o v c a p b=>?_) _ 0 [] _ s (by exact Nat.zero_add _) (Nat.zero_le _) (bN rfl ⟨none,rfl⟩ rfl) λ x a b=>?_
 ·rwa[cA b,L w J];try clear b;subst L;rwa[aW w,g H];try clear w;subst H;subst J
  have j:i<rs.length:=by exact fM q ((cw.mp p).1)
  rwa[ac (A i rs[i] (bT j)),d u G];rw[p]at u;obtain rfl:=an (u);simp only[fF,bt,aO,aN,ie,eJ,fG,jm,ax,ag,aL,ah,af,aq,ak,am,aj,aA,ai,ao,aB];refine Xe G ?_;simp only[jO];refine(bN trivial ⟨_,rfl⟩ ?_)
  erw[List.take_add_one,bT j,List.map_append];rfl
 ·rwa[cA b,B _ m];try clear b;subst B
  rw[List.nil_append,q,List.take_length]at m
  erw[m3,m]
  exact bk (by rw[bo];exact MV z) h
theorem c57{t q c:Nat}{rs:List Rg}{Q:V->St->Prop}(b:fP s t rs q c)(o:rs.length<=100)(h:∀a,a[s.length]?= some (.list (rs.map du))->Kp [] s a->a.length=s.length+1->Q (.ref s.length) a):pc (n+24) (.fn 57) [.ref t] Q E s:=by
 rwa[eW b,z d r m j y x w i g e u _,-b];have p:∀ {Q E},wp (cM (.ref t) 16) Q E s=Q (.ref d) s:=dg m rfl j;refine(ba (ρ:=[some (.ref t)]) (by decide) rfl rfl).mpr ?_
 erw[show PL.body=[.ret (some (.comp [none,none,none] (.call (.k (.fn 51)) [(.v 1)]) [((.one 1),(.inl (.t (.v 0) 16)),[])]))]from rfl]
 simp only[ae,aT,fJ,kb,bF,af,ak,am,aj,ci,p,iF,iH];rwa[DY i g e o,a f k l];simp only[br,aF,aG];exact h a f k l
noncomputable def rL(s:St)(a t:Nat)(gs:Option (List Rg)):Prop:=∃c,s[a]?= some (.inst 30 [(6,.ref t),(7,c)])/\match gs with
 |none=>c=.none
 |some l=>∃b,c=.tup [.str "index",.ref b]∧s[b]?= some (.list (l.map du))
theorem c58(k:rL s a t gs)(i:fP s t rs cp z)(h:∀v,kv s v gs→(∀c,s[a]?= some (.inst 30 [(6,.ref t),(7,c)])→(c=.none∧v=.none)∨c=.tup [.str "index",v])→Q v s):pc (n+24) (.fn 58) [.ref a] Q E s:=by
 rwa[ac k,c b f,-k];rwa[eW i,Y A B j U O u q L J H G _,-i];have x:∀ {Q E},wp (cM (.ref a) 6) Q E s=Q (.ref t) s:=dg b rfl rfl;have o:∀ {Q E},wp (cM (.ref a) 7) Q E s=Q c s:=dg b rfl rfl;have w:∀ {Q E},wp (cM (.ref t) 18) Q E s=Q (.bool false) s:=dg j rfl q;refine(ba (ρ:=[some (.ref a),none,none]) (by decide) rfl rfl).mpr ?_;simp only[PK,ae,az,ax,ag,aL,ah,af,ak,am,aj,aA,ai,ao,aB];refine Zv b rfl j u (by decide) ?_
 induction gs with
 |none=>have e:=f;subst e;have g:∀ {Q E},wp (bz .IsNot .none .none) Q E s=Q (.bool false) s:=fy (r:=true) rfl;simp only[aX,aN,aa,ae,bv,aI,bF,af,ak,am,aj,ci,o,bU,ag,aS,g,aJ,c7,aM,x,w,aT,br,aF,aG];exact h _ rfl λ c d=>by rw[b]at d;cases d;exact .inl ⟨rfl,rfl⟩
 |some l=>
  rwa[ac f,m y p];try clear f;subst y
  have g:∀ {Q E},wp (bz .IsNot (.tup [.str "index",.ref m]) .none) Q E s=Q (.bool true) s:=fy (r:=false) rfl;simp only[aX,aN,aa,ae,bv,aI,bF,af,ak,am,aj,ci,o,bU,ag,aS,g,aQ,c7,aT,aV,bp,eP,br,aF,aG];exact h _ (aw m rfl p) λ c d=>by rw[b]at d;cases d;exact .inr rfl
theorem c69{a t r cp wt:Nat}{rs:List Rg}{gs:Option (List Rg)}{Q:V->St->Prop}(hs:rL s a t gs)(iT:fP s t rs cp wt)(w:rs.length<=100)(rt:∀l,gs=some l->l.length=rs.length/\gi l rs=true)
  (h:∀a' b,rL b a' t gs->(∀c g,b[a']?= some (.inst 30 [(6,.ref t),(7,.tup [c,.ref g])])->s.length<=g)->Kp [] s b->Q (.ref a') b):pc (n+50) (.fn 69) [.ref r,.ref a] Q E s:=by
 have hs':=hs;rwa[ac hs,c s1 s2,-hs];have U:∀ {b},Kp [] s b->∀ {Q E},wp (cM (.ref a) 6) Q E b=Q (.ref t) b:=λ k=>dg (k.bM s1) rfl rfl;have A:∀ {b},Kp [] s b->∀ {Q E},wp (cM (.ref a) 7) Q E b=Q c b:=λ k=>dg (k.bM s1) rfl rfl;refine(ba (ρ:=[some (.ref r),some (.ref a),none,none,none,none,none,none,none,none,none,none,none,none,none,none]) (by decide) rfl rfl).mpr ?_;rw[show JT.body=JT.body.take 6++[.ez (.c .Eq (.v 2) (.k (.str "index"))) [.e (.call (.k (.fn 20)) [(.v 5),(.comp [none,none,none] (.call (.k (.fn 51)) [(.v 1)]) [((.one 1),(.inl (.t (.call (.k (.fn 41)) [(.t (.v 1) 6)]) 16)),[])])])] [],
  .ret (some (.call (.k (.cls 30)) [(.t (.v 1) 6),(.tup [(.v 2),(.v 5)])]))]from rfl]
 obtain ⟨R,hR⟩:∃R:List S,R=[.ez (.c .Eq (.v 2) (.k (.str "index"))) [.e (.call (.k (.fn 20)) [(.v 5),(.comp [none,none,none] (.call (.k (.fn 51)) [(.v 1)]) [((.one 1),(.inl (.t (.call (.k (.fn 41)) [(.t (.v 1) 6)]) 16)),[])])])] [],
  .ret (some (.call (.k (.cls 30)) [(.t (.v 1) 6),(.tup [(.v 2),(.v 5)])]))]:=⟨_,rfl⟩
 refine fM hR ?_;show px (n+50) (_::_::_::_::_::_::R) _ _ E s
 induction gs with
 |none=>have e:=s2;subst e;have fC:∀ {Q E},wp (bz .Is .none .none) Q E s=Q (.bool true) s:=gt rfl;simp only[ae,bv,aI,bF,af,aq,ak,am,aj,ci,A .refl,bU,ag,aS,fC,aQ,c7,aT,br,aF,aG];exact h a s hs' (λ c g x=>by rw[s1]at x;exact bZ (λ o:Option d4=>Option.casesOn o 0 λ o=>d4.casesOn o (λ _=>0) (λ _ Y=>ri ((Y.lookup 7).getD .none)) (λ _=>0) (λ _=>0) (λ _=>0)) x rfl) .refl
 |some l=>
  rwa[ac s2,g gU vU];try clear s2;subst gU
  rwa[aK (rt l rfl),ll lr];have fC:∀ {Q E},wp (bz .Is (.tup [.str "index",.ref g]) .none) Q E s=Q (.bool false) s:=gt rfl;have n1:∀ {Q E} {s:St},wp (bz .Eq (.str "index") (.str "named")) Q E s=Q (.bool false) s:=fun{Q E s}=>iM (by exact aU um rfl);have n2:∀ {Q E} {s:St},wp (bz .Eq (.str "index") (.str "range")) Q E s=Q (.bool false) s:=fun{Q E s}=>iM (by exact aU um rfl);have n3:∀ {Q E} {s:St},wp (bz .Eq (.str "index") (.str "index")) Q E s=Q (.bool true) s:=fun{Q E s}=>iM (by exact aU um rfl);simp only[ae,bv,aI,bF,af,aq,ak,am,aj,ci,A .refl,bU,ag,aS,fC,aJ,c7,aM,aa,az,aV,bp,cN,aX,aO,aN,n1,n2,bx,ai,b8];rwa[bk (by simp),ay f1 H l1];simp only[aX,aO,aN,aa,ae]
  skip
  refine eQ ?_;simp only[aV,bF,af,aq,ak,am,aj,ci,A H,bU,ag,bp,eP,gL];refine(c9 g _ rfl (H.bM vU) ?_);have glt:=bD vU;refine eh (fun i G b=>∃x6 x7 x8,G=[some (.ref r),some (.ref a),some (.str "index"),none,none,some (.ref s.length),x6,x7,x8,none,none,none,none,none,none,none]∧b[s.length]?= some (.list ((l.take i).map du))∧Kp [s.length] ay b)
   (λ i G b Pj=>by rwa[cy Pj,_ _ _ _ _ k,-Pj];exact k.at (H.bM vU) (by simp;exact AW glt)) (λ i v G b u y A8 ma=>?_) (λ G b y=>?_) _ 0 _ ay (by exact Nat.zero_add _) (Nat.zero_le _) (gN none none none rfl (by exact aU f1 rfl) .refl)
  ·rwa[cy y,x6 x7 x8 ip q k];try clear y;subst ip
   rw[cg]at u;generalize O:l[i]?= TN;induction TN with
   |none=>rw[O]at u;exact aD (u)
   |some p=>rw[O]at u;obtain rfl:=an (u);have m7:=(cw.mp O).1;unfold du;simp only[cD,bY,aO,aN,cQ,ae,az,dB,aI,af,aq,ak,am,aj,bU,ag,aS,n3,aQ,gy,ax,aL,ah,aA,ai,ao,aB];refine QD ?_;have q1:∀ {Q E},wp (ge (.ref s.length) 0) Q E b=Q () b:=gK q (.inl rfl);simp only[aX,aO,aN,aa,ae,cb,eV,af,aq,ak,am,aj,eU,q1,eT,ah,bX,aA,ax,ag,aL,ai,ao,aB];refine QD ?_;simp only[aA,ai,ao,cJ,gh];rwa[eZ q (by rw[bo,List.length_take];exact wO (.i (.a W0 (.c 1)) (.c 1000000)) [.i W1 (.c 100),.k W2 W1,.j W3 W2,.o (.e (.i W3 W2) (.k W0 W3)) (.e (.i W2 W3) (.k W0 W2))] (.s 4 (.l [0,1,0,1,1,1,0,1]) (.l [0,1,0,1,1,1])) rfl w ll m7 (Mine.L.vr _ _)),aH B m l2];simp only[aP,aa,aM,be];exact ma _ _ (gN _ _ _ rfl (by erw[B,List.take_add_one,O,List.map_append];rfl) (k.trans m))
  ·rwa[cy y,x6 x7 x8 iB q k];try clear y;subst iB
   rw[bo,List.take_length]at q;have f:=H.gG k (by exact m2);have VN:fP b t rs cp wt:=by
    rwa[eW iT,Y ix is J i2 i3 i4 i5 i6 i7 i8 i9 d8];try clear iT;rwa[cv d8,f1 B U A g3 g4 g5,-d8]
    refine(m5 Y ix is (f.bM J) i2 i3 i4 i5 (f.bM i6) i7 (λ i r w=>?_) i9 ⟨f1,B,f.bM U,A,g3,f.bM g4,g5⟩);exact ac (i8 i r w) λ d e1 e2=>(aw d e1 (e2.kp f (λ z=>bQ (z))))
   rwa[eW (id VN),Y ix is J i2 i3 i4 i5 i6 i7 i8 i9 _];have q1:∀ {Q E},wp (cM (.ref t) 16) Q E b=Q (.ref ix) b:=dg J rfl i2
   erw[hR]
   simp only[aa,ae,bv,aI,af,aq,ak,am,aj,bU,ag,aS,n3,aQ,c7,cb,ax,aL,ah,aA,fJ,kb,bF,ci,U f,ai,ao,aB];refine Xf J i4 (by decide) ?_;simp only[ci,q1,iF,iH];rwa[DY i6 i7 i8 w,aH B m l2];simp only[aA,ai,ao,aB];refine Zy (bs:=l) (rs:=rs) (m.bM q) B ll (iA (.i W0 (.c 1000)) [.i W1 (.c 100),.k W0 W1] (.l [1,1,1]) rfl w ll) (λ _=>?_) (λ z=>?_)
   ·simp only[aP,aa,aM,ae,aT,ax,ag,aL,ah,bF,af,aq,ak,am,aj,ci,U (f.trans m),aA,bX,ai,ao,cJ,aB];rwa[nZ,bf f3 k3 l3];simp only[br,aF,aG];have sl:=f.1;refine h _ bf (aw _ f3 ⟨s.length,rfl,k3.bM (m.bM q)⟩) (λ c g x=>?_) ((f.trans m).trans k3);rw[f3]at x;cases x
    exact Nat.le_refl _
   ·rw[lr]at z;exact bZ Bool.ctorIdx (z) rfl
end
abbrev Out:=Except Str (List Rg×List (Option Int))×List Int
noncomputable def ii(R:Out)(rs:List Rg):Out:=((match R.1 with
 | .error w=>.error w
 | .ok x=>if gi x.1 rs=false then .error ce else if cV x.1 1 > 24 then .error se else .ok x),R.2)
theorem qh:∀ {a rs:List Rg},a.length=rs.length->gi a rs=true->(∀r∈rs,cE r.1/\cE r.2)->∀b∈a,0<=fv b/\fv b<=201
 | [],_,_,_,_,b,h=>bQ (h)
 |b::a,[],h,_,_,_,_=>by simp at h
 |b::a,r::rs,i,h,d,k,c=>by
  simp only[gi,Bool.and_eq_true]at h;rcases List.mem_cons.mp c with rfl|c
  ·rwa[aK (d r (.head _)),e f];rwa[aK e,_ _];try clear e;rwa[aK f,_ _,-f]
   have j:=h.1;simp only[inR,Bool.not_eq_true',Bool.and_eq_false_iff,Bool.or_eq_false_iff,decide_eq_false_iff_not]at j;unfold fv
   split<;> omega
  ·exact qh (by simpa using i) h.2 (λ r g=>d r (.tail _ g)) k c
theorem vc:∀ {g:List Rg} {acc:Int} {m:Nat},(∀b∈g,0<=fv b/\fv b<=201)->0<=acc/\acc<=1->g.length<=2->∀j,0<=cV (g.take j) acc/\cV (g.take j) acc<=40401
 | [],acc,m,_,a,_,j=>by simp [cV];exact II a
 | [b],acc,m,h,a,_,0=>by simp [cV];exact II a
 | [b],acc,m,h,a,_,j+1=>by
  rwa[aK (h b (.head _)),e f];have:cV ([b].take (j+1)) acc=acc * fv b:=by simp [cV]
  erw[this]
  refine⟨Int.mul_nonneg a.1 e,?_⟩;have:=Int.mul_le_mul a.2 f e (by decide);exact MI this
 | [b,c],acc,m,h,a,_,0=>by simp [cV];exact II a
 | [b,c],acc,m,h,a,_,1=>by
  rwa[aK (h b (.head _)),e f];have:cV ([b,c].take 1) acc=acc * fv b:=by simp [cV]
  erw[this]
  refine⟨Int.mul_nonneg a.1 e,?_⟩;have:=Int.mul_le_mul a.2 f e (by decide);exact MI this
 | [b,c],acc,m,h,a,_,j+2=>by
  rwa[aK (h b (.head _)),e f];rwa[aK (h c (.tail _ (.head _))),i p];have:cV ([b,c].take (j+2)) acc=acc * fv b * fv c:=by simp [cV]
  erw[this]
  have o:=Int.mul_nonneg a.1 e;have k:=Int.mul_le_mul a.2 f e (by decide);refine⟨Int.mul_nonneg o i,?_⟩;have:=Int.mul_le_mul k p i (by decide);exact ed (.l Y0 (.c 40401)) [.l Y0 (.n (.m 1 (.c 201)) 201)] (.l [1,1]) rfl this
 |b::c::d::g,acc,m,_,_,h,_=>by simp at h
section
variable{n:Nat}{E:Str->St->Prop}{s:St}
theorem Zt
  (wo:Wo s r nd tl told lim) (A:Tl s told H) (hs:rL s a t gs) (zm:∀c,s[a]?= some (.inst 30 [(6,.ref t),(7,c)])→∀ga,c=.tup [.str "index",.ref ga]→ga≠told) (J:fP s t rs cp wt) (lx:∀ix,lf s t ix→ix≠told) (o:rs.length≤2) (hrt:∀r∈rs,cE r.1∧cE r.2) (rt:∀l,gs=some l→l.length=rs.length∧gi l rs=true)
  (KW:∀x,R.1=.ok x->x.1.length=rs.length)
  (h74:∀d q (Q':V->St->Prop),Kp [] s d->kv d q gs->(∀a,q=.ref a->a≠told)->(∀w h,R.1=.error w->Tl h told (H++R.2)->Kp [told] d h->E w h)->(∀x v h,R.1=.ok x->jq d.length h v x.1 (bC x.2)->Tl h told (H++R.2)->Kp [told] d h->Q' v h)->
   pc (n+71) (.fn 74) [.ref r,.ref t,.ref pa,q,.int ((0:Nat):Int)] Q' E d)
  (hE:∀w d,(ii R rs).1=.error w->Tl d told (H++R.2)->Kp [told] s d->E w d)
  (hQ:∀x v d,(ii R rs).1=.ok x->jq s.length d v x.1 (bC x.2)->Tl d told (H++R.2)->Kp [told] s d->Q v d):
  pc (n+73) (.fn 75) [.ref r,.tup [.str "aggr",.ref t,.ref a,.ref pa]] Q E s:=by
 have yt:=bD A;rwa[eW (id J),fs ix is i1 i2 i3 i4 i5 i6 i7 i8 i9 _];refine(ba (ρ:=[some (.ref r),some (.tup [.str "aggr",.ref t,.ref a,.ref pa]),none,none,none,none,none,none,none,none,none]) (by decide) rfl rfl).mpr ?_;simp only[PG,ae,az,ax,ag,aL,ah,aV,af,aq,ak,am,aj,bU,bp,CO,aA,ai,ao,aB];refine Xf i1 i4 (by decide) ?_;simp only[aX,aO,aN,aa,ae,az,ax,ag,aL,ah,af,ak,am,aj,aA,aq,aV,bU,bp,mf,t0,ai,ao,aB];rwa[c69 hs J (Cc o) rt,a' ay sr oJ z];have VM:=J.kp A lx z.of;simp only[aA,ai,ao,aB];rwa[c58 sr VM,q gr Ov];have oH:∀b,q=.ref b->b≠told:=λ b hb=>by
  rwa[ac sr,c z1 z2,-sr];rcases Ov c z1 with ⟨_,O⟩|O
  ·rw[O]at hb;exact bZ ri (hb) rfl
  ·subst hb O
   induction gs with
   |none=>exact bZ ri (z2) rfl
   |some l=>have:=oJ _ b z1;exact Cb yt this
 have z0:(V.int 0)=V.int ((0:Nat):Int):=rfl
 erw[z0]
 rwa[h74 ay q _ z gr oH (λ w h hw y k2=>hE w h (by unfold ii;exact aU hw rfl) y (z.of.trans k2)),x v aH L av y k2];have G:=KW x L;rwa[jU av,b bl il cH o1 o2 o3 y1 U y3];try clear av;subst cH
 have p:=z.of.trans k2;have g4:∀ {d},Kp [] aH d->∀ {Q E},wp (cM (.ref b) 4) Q E d=Q (.ref bl) d:=λ k=>dg (k.bM y1) rfl rfl;simp only[aX,aO,aN,aa,ae,cb,ax,ag,aL,ah,bF,af,aq,ak,am,aj,ci,g4 .refl,aA,ai,ao,aB];rwa[c57 (J.kp A lx p) (Cc o),B f3 f l3];refine Zy (bs:=x.1) (rs:=rs) (f.bM U) f3 G (iA (.i W0 (.c 1000)) [.i W1 (.c 2),.k W0 W1] (.l [1,1,1]) rfl o G) (λ u=>?_) (λ u=>?_)
 ·have Y:=qh G u hrt;have Yq:=vc (m:=0) (acc:=1) Y (by decide) (MH o G);rwa[bR ((wo.kp (p.trans f.of) (.one A)).run),Z4 r1 r2 r3];have g5:∀ {Q E},wp (cM (.ref r) 29) Q E B=Q (.ref lim) B:=dg r1 rfl r3;simp only[aP,aa,ae,cb,ax,ag,aL,ah,bF,af,aq,ak,am,aj,ci,g4 f,aA,g5,ai,ao,aB];refine Zz (bs:=x.1) (wo.kp (p.trans f.of) (.one A)).lim (f.bM U) (λ j _=>cr (by have:=Yq j;exact ed (.l (.g (.c 1000000)) Y0) [.e (.l (.c 0) Y0) (.l Y0 (.c 40401))] (.l [1,1]) rfl this) (by have:=Yq j;exact ed (.l Y0 (.c 1000000)) [.e (.l (.c 0) Y0) (.l Y0 (.c 40401))] (.l [1,0,1]) rfl this)) (λ r o=>cr (by have:=Y r o;exact ed (.l (.g (.c 1000000)) Y0) [.e (.l (.c 0) Y0) (.l Y0 (.c 201))] (.l [1,1]) rfl this) (by have:=Y r o;exact ed (.l Y0 (.c 1000000)) [.e (.l (.c 0) Y0) (.l Y0 (.c 201))] (.l [1,0,1]) rfl this)) (λ hp=>?_) (λ hp=>?_)
  ·have LP:=z.1;simp only[aP,aa,ae,aT,af,aq,ak,am,aj,br,aF,aG];refine hQ x _ B ?_ (kK b bl il rfl (Cd o1 LP) (Cd o2 LP) (Cd o3 LP) (f.bM y1) (f.bM U) (f.bM y3)) (f.bM y) (p.trans f.of);unfold ii;erw[L];simp only;erw[if_neg (by rw[u];decide),if_neg hp];rfl
  ·refine hE _ B ?_ (f.bM y) (p.trans f.of);unfold ii;erw[L];simp only;erw[if_neg (by rw[u];decide),if_pos hp];rfl
 ·refine hE _ B ?_ (f.bM y) (p.trans f.of);unfold ii;erw[L];simp only;erw[if_pos u];rfl
end
noncomputable def gd(a:List (eY×End))(gs:Option (List Rg))(b:Int):Out:=
 ((match (c8 cL a (cn gs 0) b).1 with| .error w=>.error w| .ok x=>.ok ([x.1],x.2)),(c8 cL a (cn gs 0) b).2)
theorem vJ(h:∀l,gs=some l->l.length=2):(ft gs [b,a] 0).length=1:=by
 induction gs with
 |none=>rfl
 |some l=>show(l.drop 1).length=1;erw[List.length_drop,h l rfl];rfl
theorem sE(h:∀l,gs=some l->l.length=2):∀x,(dN g gs [f,e] a b).1=.ok x->x.1.length=2:=by
 intro x c;unfold dN at c;simp only at c
 split at c
 ·exact bZ Except.ctorIdx (c) rfl
 ·split at c
  ·obtain rfl:=Except.ok.inj (c);show(_::ft gs [f,e] 0).length=2;erw[List.length_cons,vJ h];rfl
  ·split at c
   ·exact bZ Except.ctorIdx (c) rfl
   ·rename_i d;obtain rfl:=Except.ok.inj (c);unfold lK at d
    split at d
    ·exact aD (d)
    ·split at d
     ·obtain rfl:=an (d);rfl
     ·exact aD (d)
section
variable{n:Nat}{E:Str->St->Prop}{s:St}
theorem Zs(e:fP s t rs x i)(h:pc (n+73) (.fn 75) [.ref r,.tup [.str "aggr",.ref t,.ref a,.ref b]] Q E s):
  pc (n+76) (.fn 79) [.ref r,.tup [.str "aggr",.ref t,.ref a,.ref b]] Q E s:=by
 rwa[eW (id e),w j k d v u c q p o m l _];have g:∀ {Q E},wp (cM (.ref t) 8) Q E s=Q (.str "array") s:=dg d rfl c;have f:∀ {Q E},wp (bz .Eq (.str "array") (.str "array")) Q E s=Q (.bool true) s:=iM (by exact aU um rfl);refine(ba (ρ:=[some (.ref r),some (.tup [.str "aggr",.ref t,.ref a,.ref b]),none,none,none]) (by decide) rfl rfl).mpr ?_;simp only[PF,ae,bv,aI,bF,ax,ag,aL,ah,aV,af,aq,ak,am,aj,bU,bp,CO,aA,ai,ao,aB];refine Xf d c (by decide) ?_;simp only[ci,g,bU,ag,aS,f,aQ,c7,ae,aT,ax,aL,ah,af,ak,am,aj,aA,aq,ai,ao,aB];exact h
theorem Xb
  (wo:Wo s r nd tl told lim) (H:Tl s told []) (hp:dC (kI w) s told w pa j us) (hw:qP j) (hs:rL s a t gs) (zm:∀c,s[a]?= some (.inst 30 [(6,.ref t),(7,c)])→∀ga,c=.tup [.str "index",.ref ga]→ga≠told)
  (y:fP s t [(i,u)] cp wt) (B:∀o,lf s t o->o≠told) (C3:cE i) (VT:cE u) (rt:∀l,gs=some l->l.length=1/\gi l [(i,u)]=true) (rp:∀l,gs=some l->∀g∈l,cE g.1/\cE g.2)
  (mj:(gd j gs i).2.length<=1000000)
  (hE:∀w f,(ii (gd j gs i) [(i,u)]).1=.error w->Tl f told (gd j gs i).2->Kp [told] s f->E w f)
  (hQ:∀x v f,(ii (gd j gs i) [(i,u)]).1=.ok x->jq s.length f v x.1 (bC x.2)->Tl f told (gd j gs i).2->Kp [told] s f->Q v f):
  pc (n+76) (.fn 79) [.ref r,.tup [.str "aggr",.ref t,.ref a,.ref pa]] Q E s:=by
 refine Zs y (Zt (R:=gd j gs i) wo H hs zm y B (by simp) (λ r m=>by rw[dF]at m;subst m;exact⟨C3,VT⟩) rt (λ x p=>?_) (λ f HE Q' k g hg e q=>?_) hE hQ)
 ·unfold gd at p;simp only at p
  split at p
  ·exact bZ Except.ctorIdx (p) rfl
  ·obtain rfl:=Except.ok.inj (p);rfl
 ·have C4:∀o,lf f t o->o≠told:=λ uF ⟨ef,z1,O⟩=>by rwa[cy (id y),YZ Ry _ y1 Y _];have U:=k.bM y1;rw[z1]at U;obtain rfl:=(d4.inst.inj (an (U))).2;rw[O]at Y;obtain rfl:=V.ref.inj (an (Y));exact B uF (aw _ y1 O)
  refine QB (n:=n+7) (d:=0) (rs:=[(i,u)]) (lg:=[]) (wo.kp k .nil) (k.bM H) (dC.kp (s:=s) (s':=f) (λ _ _ h=>h) hp k.of) hw g hg (λ l z=>by erw[(rt l z).1];decide) rp C3 (y.kp H B k.of) C4 rfl rfl (by decide) (by simpa [gd] using mj) (λ w' J m A G=>e w' J (by unfold gd;exact aU m rfl) A G) (λ b L v J m av A G=>q ([b],L) v J (by unfold gd;exact aU m rfl) av A G)
theorem Xc
  (wo:Wo s r nd tl told lim) (L:Tl s told []) (hp:dC (ju w told t) s told w pa m us) (hw:qP m) (Ai:∀p∈m,qP p.2) (hs:rL s a t gs) (zm:∀c,s[a]?= some (.inst 30 [(6,.ref t),(7,c)])→∀ga,c=.tup [.str "index",.ref ga]→ga≠told)
  (A:fP s t [(d,j),(b,i)] cp wt) (H:∀y,lf s t y->y≠told) (C3:cE d) (VT:cE j) (lC:cE b) (O:cE i) (G:∀l,gs=some l->l.length=2/\gi l [(d,j),(b,i)]=true) (rp:∀l,gs=some l->∀g∈l,cE g.1/\cE g.2)
  (mj:(dN m gs [(d,j),(b,i)] d b).2.length<=1000000)
  (hE:∀w f,(ii (dN m gs [(d,j),(b,i)] d b) [(d,j),(b,i)]).1=.error w->Tl f told (dN m gs [(d,j),(b,i)] d b).2->Kp [told] s f->E w f)
  (hQ:∀x v f,(ii (dN m gs [(d,j),(b,i)] d b) [(d,j),(b,i)]).1=.ok x->jq s.length f v x.1 (bC x.2)->Tl f told (dN m gs [(d,j),(b,i)] d b).2->Kp [told] s f->Q v f):
  pc (n+76) (.fn 79) [.ref r,.tup [.str "aggr",.ref t,.ref a,.ref pa]] Q E s:=by
 refine Zs A (Zt (R:=dN m gs [(d,j),(b,i)] d b) wo L hs zm A H (by simp) (λ r o=>?_) G (sE λ l z=>(G l z).1) (λ f HE Q' k g hg e q=>?_) hE hQ)
 ·rcases List.mem_cons.mp o with rfl|o
  ·exact⟨C3,VT⟩
  ·rw[dF]at o;subst o;exact⟨lC,O⟩
 ·have C4:∀y,lf f t y->y≠told:=λ uF ⟨ef,z1,Y⟩=>by rwa[cy (id A),YZ Ry _ y1 y2 _];have y3:=k.bM y1;rw[z1]at y3;obtain rfl:=(d4.inst.inj (an (y3))).2;rw[Y]at y2;obtain rfl:=V.ref.inj (an (y2));exact H uF (aw _ y1 Y)
  refine Xd (lg:=[]) (wo.kp k .nil) (k.bM L) (dC.kp (s:=s) (s':=f) (λ u x Ph=>by rwa[cO Ph,p1 u1 i h2,-Ph];exact(ff p1 u1 i (dC.kp (s:=s) (s':=f) (λ _ _ h=>h) h2 k.of))) hp k.of) hw Ai g hg (λ l z=>(G l z).1) rp C3 lC (A.kp L H k.of) C4 (by simpa using mj) (λ w' U o B J=>e w' U o B J) (λ x v U o av B J=>q x v U o av B J)
end
structure lj(s:St)(bg mk:Nat)(xs:List Int)(i m:Int):Prop where
 Eb:s[bg]?= some (.list [.int i,.ke xs])
 EB:s[mk]?= some (.list [.int m])
 pos:0<=i
 ne:bg≠mk
section
variable{n:Nat}{E:Str->St->Prop}{s:St}{bg mk:Nat}{xs:List Int}{i m:Int}{w:V}
theorem lj.kp(h:lj s bg mk xs i m)(k:Kp [] s s'):lj s' bg mk xs i m:=⟨k.bM h.Eb,k.bM h.EB,h.pos,h.ne⟩
theorem lj.AY(h:lj s bg mk xs i m)(k:Kp W s a)(c:bg∉W)(b:mk∉W):lj a bg mk xs i m:=⟨k.at h.Eb c,k.at h.EB b,h.pos,h.ne⟩
theorem QA(z:s[bg]?= some (.list [.int i,.ke xs]))(g:0<=i)(f:0<c)
  (h:∀r e,0<=r->r<c->e[bg]?= some (.list [.int (i+1),.ke xs])->Kp [bg] s e->e.length=s.length->Q (.int r) e):pc (n+12) (.fn 83) [.ref bg,.int c] Q E s:=by
 have J:∀ {Q E},wp (cK (.ref bg) (.int 0)) Q E s=Q (.int i) s:=bL (j:=0) z rfl;refine(ba (ρ:=[some (.ref bg),some (.int c),none]) (by decide) rfl rfl).mpr ?_;simp only[PE,ae,rR,af,ak,am,aj,yJ,ag,CD,J,CE,cz,dp,CB];rwa[kC z (by decide) (by simp),b O v u];have o:=O;obtain ⟨N,d⟩:∃N,N=xs.length:=⟨_,rfl⟩;have B:∀ {Q E},wp (cK (.ref bg) (.int 0)) Q E b=Q (.int (i+1)) b:=bL (j:=0) o rfl;have A:∀ {Q E},wp (cK (.ref bg) (.int 1)) Q E b=Q (.ke xs) b:=bL (j:=1) o rfl;have H:∀ {Q E},wp (iu .len [.ke xs]) Q E b=Q (.int (N:Int)) b:=by intro Q E;exact aU d (bJ rfl)
 simp only[aP,aa,ae,aT,dB,aI,aV,af,ak,am,aj,bU,ag,bp,B,ax,aL,ah,A,aA,ai,ao,aB,aZ,H,aS,ku];by_cases q:i+1<= (N:Int)
 ·have y:xs[i.toNat]?= some (xs[i.toNat]'(by exact IH g d q (Mine.L.bO _))):=bT (by exact IH g d q (Mine.L.bO _))
  generalize xs[i.toNat]'(by exact IH g d q (Mine.L.bO _))=x at y
  have U:kh i xs.length=some i.toNat:=by unfold kh;erw[if_pos (by exact M6 g),if_pos (by exact pW (.p Y0 (.t W0)) [.k W1 W0,.l (.a Y0 (.c 1)) (.t W1)] (.l [1,1,0,1]) rfl d q)];rfl
  have G:∀ {Q E},wp (cK (.ke xs) (.int (i+1 - 1))) Q E b=Q (.int x) b:=bJ (by show gO ((kh (i+1 - 1) xs.length).bind _) _ b=_;erw[show i+1 - 1=i by exact ed (.q (.s (.a Y0 (.c 1)) (.c 1)) Y0) [] (.s 0 (.l [1]) (.l [1])) rfl,U];show gO xs[i.toNat]? _ b=_;exact aU y rfl);simp only[bq q,aQ,gy,bG,aV,af,ak,am,aj,bU,ag,bp,A,B,cz,gu,G,aq];simp only[QI (show c≠0 by exact ed (.n (.q Y0 (.c 0))) [.p (.c 0) Y0] (.s 0 (.l [1,0,1]) (.l [1,0,1])) rfl f),br,aF,aG];exact h _ b (Int.fmod_nonneg_of_pos _ f) (Int.fmod_lt_of_pos _ f) o v u
 ·simp only[bA q,aJ,gy,ag,br,aF,aG];exact h 0 b (Int.le_refl _) f o v u
theorem D6(b:lj s bg mk xs i m)(d:0<c)(h:∀r a,0<=r->r<c->lj a bg mk xs (i+1) m->Kp [bg,mk] s a->a.length=s.length->Q (.int r) a):pc (n+12) (.fn 83) [.ref bg,.int c] Q E s:=by refine QA b.Eb b.pos d λ r a g f e k l=>h r a g f ⟨e,k.at b.EB (by simp [b.ne.symm]),by have:=b.pos;exact MG this,b.ne⟩ (k.wide (by simp)) l
theorem Xa(a:lj s bg mk xs i m)(h:∀b,lj b bg mk xs i (m+1)->Kp [bg,mk] s b->b.length=s.length->Q (iV w (m+1,v)) b):pc (n+12) (.fn 85) [.ref bg,w,.ref mk,.int v] Q E s:=by have k:∀ {Q E},wp (cK (.ref mk) (.int 0)) Q E s=Q (.int m) s:=bL (j:=0) a.EB rfl;refine(ba (ρ:=[some (.ref bg),some (w),some (.ref mk),some (.int v)]) (by decide) rfl rfl).mpr ?_;simp only[PC,ae,rR,af,aq,ak,am,aj,yJ,ag,CD,k,CE,cz,dp,CB];rwa[kC a.EB (by decide) (by simp),c l d f];have e:=l;have g:∀ {Q E},wp (cK (.ref mk) (.int 0)) Q E c=Q (.int (m+1)) c:=bL (j:=0) e rfl;simp only[aP,aa,ae,aT,bX,ah,ag,aA,af,aq,ak,am,aj,aV,bU,bp,g,ai,ao,xp,br,aF,aG];exact h c ⟨d.at a.Eb (by exact jh (a.ne)),e,a.pos,a.ne⟩ (d.wide (by exact Bt)) f
theorem c86(hb:lj s bg mk xs i m)(h:∀l d a u f,lj d bg mk xs u f->d[a]?= some (.list (l.map (r7 w)))->l≠ []->l.length<=2->(∀p∈l,cE p.1.2/\cE p.2.2)->Kp [bg,mk] s d->s.length<=a->Q (.ref a) d):pc (n+30) (.fn 86) [.ref bg,w,.ref mk] Q E s:=by
 have B:=bD hb.Eb;have A:=bD hb.EB;refine(ba (ρ:=[some (.ref bg),some (w),some (.ref mk),none,none,none,none,none,none,none,none]) (by decide) rfl rfl).mpr ?_;simp only[PB,ae,az,bx,ai,b8];rwa[bk (by simp),ay f1 k1 l1];simp only[aX,aO,aN,aa,ae]
 skip
 refine f0 ?_;simp only[dJ,bG,ag,bU,ax,aL,ah,af,ak,am,aj,aA,ai,ao,aB];rwa[D6 (hb.kp k1) (by decide),c aH c0 c1 A2 k2 l2];simp only[cz,dp,gf,cr (show -1000000<= (0:Int)by decide) (by decide),cr (show -1000000<=1+c by exact ed (.l (.g (.c 1000000)) (.a (.c 1) Y0)) [.l (.c 0) Y0] (.l [1,1]) rfl c0) (ed (.l (.a (.c 1) Y0) (.c 1000000)) [.p Y0 (.c 2)] (.l [1,1]) rfl c1),cP,iG];have f2:=k2.at f1 (by simp;exact IG B A);refine eM (xs:=di 0 (1+c)) (λ j G d=>∃U O J H l u f,G=[some (.ref bg),some w,some (.ref mk),some (.ref s.length),U,O,J,H,none,none,none]/\l.length=j/\(∀p∈l,cE p.1.2/\cE p.2.2)/\d[s.length]?= some (.list (l.map (r7 w)))/\lj d bg mk xs u f/\Kp [bg,mk,s.length] ay d)
  (λ j x G d hx y A8 ma=>?_) (λ G d y=>?_) _ 0 _ aH (Nat.zero_add _) (xy none none none none ([]) (i+1) m rfl rfl (λ p h=>(bQ (h))) f2 A2 (k2.wide (by exact Br)))
 ·rwa[xT y,U O J H l u f bw r ht hf Y k];try clear y;subst bw
  rwa[aK (cS hx),_ hj];have kl:=k.1;simp only[bt,aO,aN,cQ,ae,az,bG,ax,ag,aL,ah,af,ak,am,aj,aA,ai,ao,aB];rwa[D6 Y (by decide),a bf a0 a1 JE k3 l3];simp only[bU,ag,cz,gu,aX,aO,aN,aa,ae,az,bG,af,aq,ak,am,aj,ax,aL,ah,aA,ai,ao,aB];rwa[D6 JE (by decide),b bK b0 b1' Aq k4 l4];simp only[cz,dp,bU,ag,gu,aX,aO,aN,aa,ae,az,ax,aL,ah,af,ak,am,aj,aA,aq,ai,ao,aB];rwa[Xa Aq,cI JD k5 l5];have X7:=(k3.trans k4).trans k5;have JA:=X7.at hf (by simp;exact IG B A);have g1:∀ {Q E},wp (ge (.ref s.length) 0) Q E cI=Q () cI:=gK JA (.inl rfl);simp only[aX,aO,aN,aa,ae,cb,eV,af,aq,ak,am,aj,eU,g1,eT,ah,bX,aA,ax,ag,aL,ai,ao,aB];rwa[Xa JD,dj Wh k6 l6];have hf6:=k6.at JA (by simp;exact IG B A);simp only[aA,ai,ao,cJ,gh];rwa[eZ hf6 (by rw[bo];exact pW (.i (.a W0 (.c 1)) (.c 1000000)) [.p Y0 (.c 2),.k W0 W1,.p (.t W1) (.s (.a (.c 1) Y0) (.c 0))] (.l [1,1,1,0,1]) rfl c1 r hj),pz f7 k7 l7];simp only[aP,aa,aM,be];refine ma _ _ (xy _ _ _ _ (l++[((f+1,a - 3),(f+1+1,a - 3+b - 1))]) _ _ rfl (by simp [r]) (λ p v=>?_) (by erw[f7,List.map_append];rfl) (Wh.AY k7 (by simp;exact AW B) (by simp;exact AW A)) (((k.trans (X7.wide (by exact Br))).trans (k6.wide (by exact Br))).trans (k7.wide (by simp))));rcases List.mem_append.mp v with v|v
  ·exact ht p v
  ·rw[dF]at v;subst v;exact⟨⟨by show(-100:Int)<=a - 3;exact ed (.l (.g (.c 100)) (.s Y0 (.c 3))) [.l (.c 0) Y0] (.l [1,1]) rfl a0,by show a - 3<= (100:Int);exact ed (.l (.s Y0 (.c 3)) (.c 100)) [.p Y0 (.c 9)] (.l [1,1]) rfl a1⟩,⟨by show(-100:Int)<=a - 3+b - 1;exact oA (.l (.g (.c 100)) (.s (.a (.s Y0 (.c 3)) Y1) (.c 1))) [.l (.c 0) Y0,.l (.c 0) Y1] (.l [1,1,1]) rfl a0 b0,by show a - 3+b - 1<= (100:Int);exact oA (.l (.s (.a (.s Y0 (.c 3)) Y1) (.c 1)) (.c 100)) [.p Y0 (.c 9),.p Y1 (.c 4)] (.l [1,1,1]) rfl a1 b1'⟩⟩
 ·rwa[xT y,U O J H l u f b7 r ht hf Y k];try clear y;subst b7
  rw[bS]at r;simp only[aa,ae,aT,af,aq,ak,am,aj,br,aF,aG];refine h l d _ u f Y hf (λ z=>?_) (pW (.i W0 (.c 2)) [.p Y0 (.c 2),.k W0 W1,.o (.e (.l (.c 0) (.s (.a (.c 1) Y0) (.c 0))) (.q (.t W1) (.s (.a (.c 1) Y0) (.c 0)))) (.e (.l (.s (.a (.c 1) Y0) (.c 0)) (.c 0)) (.k W1 (.c 0)))] (.s 3 (.l [0,1,0,1,1,1]) (.l [0,1,0,1,0,1])) rfl c1 r (Mine.L.bO _)) ht (k1.of.gG k (by simp)) (Nat.le_refl _);rw[z]at r;simp at r;exact kJ .z [.l (.c 0) Y0,.k (.c 0) W0,.o (.e (.l (.c 0) (.a (.c 1) Y0)) (.q (.t W0) (.a (.c 1) Y0))) (.e (.l (.a (.c 1) Y0) (.c 0)) (.k W0 (.c 0)))] (.s 3 (.l [0,0,1,1,0,1]) (.l [1,0,0,1])) rfl c0 r (Mine.L.bO _)
end
section
variable{ν:Type}
noncomputable def gx(g:Nat->St->V->ν->Prop)(s:St)(lo:Nat)(w:V)(f:Nat)(c:List (eY×ν))(e:List V):Prop:=
 ∃b,s[f]?= some (.list b)/\b.length=c.length/\e.length=c.length/\lo<=f/\∀ (i:Nat) (p:eY×ν),c[i]?= some p->∃v u,b[i]?= some (.tup [v,u])/\e[i]?= some u/\jf s w p.1 v/\(∀a,v=.ref a->lo<=a)/\g lo s u p.2
structure Nr(nr:Nat->St->V->ν->Prop):Prop where
 kp:∀lo ay aH u x W,nr lo ay u x->Kp W ay aH->(∀b∈W,b<lo)->nr lo aH u x
 low:∀lo z7 s u x,nr lo s u x->z7<=lo->nr z7 s u x
noncomputable def mY(w:V):Nat->St->V->End->Prop:=λ _ _ u e=>u=iV w e
noncomputable def pP(w:V)(t:Nat):Nat→St→V→List (eY×End)→Prop:=fun lo s u c=>∃a b,u=.tup [.str "row",.ref t,.int 1,.ref a]∧gx (mY w) s lo w a c b
theorem Rs(w:V):Nr (mY w):=⟨λ _ _ _ _ _ _ h _ _=>h,λ _ _ _ _ _ h _=>h⟩
theorem gx.kp(N:Nr nr)(h:gx nr s lo w q o l)(k:Kp W s s')(e:∀b∈W,b<lo):gx nr s' lo w q o l:=by
 rwa[fh h,j B A y f x,-h];have c:∀ {a},lo<=a->a∉W:=λ h z=>by have:=e _ z;exact Hn h this
 refine(jk j (k.at B (c f)) A y f (λ i p r=>?_));exact cv (x i p r) λ v u L J H g G=>(fN v u L J (H.kp k (λ a z=>c (g a z))) g (N.kp _ _ _ _ _ _ G k e))
theorem gx.low(N:Nr c)(h:gx c s lo w k j g)(b:e<=lo):gx c s e w k j g:=by rwa[fh h,f y x r q o,-h];refine(jk f y x r (Hk b q) (λ i p l=>?_));exact cv (o i p l) λ v u J H G B A=>(fN v u J H G (λ a z=>by have:=B a z;exact Hk b this) (N.low _ _ _ _ _ A b))
theorem XY(w:V)(t:Nat):Nr (pP w t):=⟨λ lo o p u x W f k j=>by rwa[cO f,b a e c,-f];exact(ff b a e (c.kp (Rs w) k j)),λ lo l s u x g h=>by rwa[cO g,b a e c,-g];exact(ff b a e (c.low (Rs w) h))⟩
structure A6(P:ν->Prop)(ps:List (eY×ν)):Prop where
 at_:∃l o,ps=l++o/\(o=[]∨∃x,o=[(.gc,x)])/\((∀p∈l,p.1=.pos)∨(∀p∈l,∃r,p.1=.eG r/\r≠ []/\r.length<=2/\∀q∈r,cE q.1.2/\cE q.2.2))/\l.length<=3
 AP:∀p∈ps,P p.2
noncomputable def Ix(s:St)(t ix N:Nat):Prop:=∃b a,s[t]?= some (.inst 29 b)/\b.lookup 16=some (.ref ix)/\s[ix]?= some (.list a)/\a.length=N
theorem Ix.kp(h:Ix s t ix N)(k:Kp W s s')(e:LW W s)(c:ix∉W):Ix s' t ix N:=by rwa[dm h,l b a j g f,-h];exact(gj l b (k.at a (e.not a λ _ z=>bZ vm (z) rfl)) j (k.at g c) f)
end
section
variable{ν:Type}{n:Nat}{E:Str->St->Prop}{s:St}{bg mk t ix N d:Nat}{xs:List Int}{i m:Int}{w:V}
theorem lj.lw(a:lj s bg mk xs i m):LW [bg,mk] s:=λ b h=>by
 rcases List.mem_cons.mp h with rfl|h
 ·exact⟨_,a.Eb⟩
 ·rw[dF]at h;subst h;exact⟨_,a.EB⟩
theorem WY(v:lj s bg mk xs i m)(f:Ix s t ix N)(u:N<=d+1)(O:d<=100)(h:∀e b q j,0<=e.2->lj b bg mk xs q j->Kp [bg,mk] s b->Q (iV w e) b):
  pc (n+20) (.fn 88) [.ref bg,w,.ref mk,.ref t,.int (d:Int)] Q E s:=by
 rwa[dm f,fs is A z y x,-f];have G:∀ {Q E},wp (cM (.ref t) 16) Q E s=Q (.ref ix) s:=dg A rfl z;have B:∀ {Q E},wp (iu .len [.ref ix]) Q E s=Q (.int (N:Int)) s:=by intro Q E;erw[len_list y,x];rfl
 have H:decide ((d:Int)+1< (N:Int))=false:=bA (iA (.n (.p (.a (.t W0) (.c 1)) (.t W1))) [.i W1 (.a W0 (.c 1))] (.s 0 (.l [1,1]) (.l [1,1])) rfl u);refine(ba (ρ:=[some (.ref bg),some (w),some (.ref mk),some (.ref t),some (.int (d:Int)),none,none,none,none]) (by decide) rfl rfl).mpr ?_;simp only[JS,ae,bv,aI,bG,af,aq,ak,am,aj,bU,ag,cz,dp,ax,aL,ah,bF,ci,G,aA,ai,ao,aB,aZ,B,aS,la,H,aJ,c7,aM,aa,aT];rwa[D6 v (by decide),r ay g U L o l1];simp only[bU,ag,cz,dp]
 erw[Ki (by decide) (by decide)]
 rwa[Xa L,J A2 k Y];simp only[br,aF,aG];exact h _ J _ _ (Int.fdiv_nonneg (MG g) (by decide)) A2 (o.trans k)
theorem Zr{nr:Nat->St->V->ν->Prop}{P:ν->Prop}{Q:V->St->Prop}(NR:Nr nr)(hb:lj s bg mk xs i m)(hx:Ix s t ix N)(hi:ix≠bg/\ix≠mk)
  (YT:∀A i' m' (Q':V->St->Prop),lj A bg mk xs i' m'->Ix A t ix N->(∀u x bh NG Mf,nr A.length bh u x->P x->lj bh bg mk xs NG Mf->Kp [bg,mk] A bh->Q' u bh)->pc (n+55) (.fn 88) [.ref bg,w,.ref mk,.ref t,.int (d:Int)] Q' E A)
  (h:∀y B pa A i' m',gx nr A s.length w pa y B->A6 P y->lj A bg mk xs i' m'->Kp [bg,mk] s A->Q (.ref pa) A):
  pc (n+60) (.fn 87) [.ref bg,w,.ref mk,.ref t,.int (d:Int)] Q E s:=by
 have b1:=bD hb.Eb;have b3:=bD hb.EB;have lx:ix<s.length:=by rwa[dm hx,_ _ _ _ h3 _,-hx];exact bD h3
 refine(ba (ρ:=[some (.ref bg),some (w),some (.ref mk),some (.ref t),some (.int (d:Int)),none,none,none,none,none,none,none,none]) (by decide) rfl rfl).mpr ?_;simp only[PA,ae,az,aI,ax,ag,aL,ah,af,ak,am,aj,aA,ai,ao,aB];rwa[D6 hb (by decide),r Y r0 r1 JF k1 H];have g1:∀ {Q E},wp (bz .Eq (.int r) (.int 1)) Q E Y=Q (.bool (decide (r=1))) Y:=iM AF;obtain ⟨nb,hnb⟩:∃nb,nb=decide (r=1):=⟨_,rfl⟩;rw[← hnb]at g1;simp only[bU,ag,aS,g1,aX,aO,aN,aa,ae,az,bx,ai,b8];rwa[bk (by simp),aH f2 k2 l2];have ky:=k1.trans k2.of;have CT:=hx.kp ky hb.lw (by exact wM (hi.1) (hi.2));simp only[aX,aO,aN,aa,ae]
 skip
 refine f0 ?_;simp only[dJ,ax,ag,aL,ah,af,ak,am,aj,aA,ai,ao,aB];rwa[D6 (JF.kp k2) (by decide),c bf c0 c1 JE k3 l3];simp only[gf,cr (show -1000000<= (0:Int)by decide) (by decide),cr (show -1000000<=c by exact ed (.l (.g (.c 1000000)) Y0) [.l (.c 0) Y0] (.l [1,1]) rfl c0) (ed (.l Y0 (.c 1000000)) [.p Y0 (.c 4)] (.l [1,1]) rfl c1),cP,iG];have f3:=k3.at f2 (by simp;exact Ca b1 b3 H);have Vj:=CT.kp k3 (JF.kp k2).lw (by exact wM (hi.1) (hi.2));have base:∃c1,c=((c1:Nat):Int):=⟨c.toNat,by exact IM c0 (Mine.L.bO _)⟩;obtain ⟨Inv,Gb⟩:∃Inv:Nat->Env->St->Prop,Inv=(λ j ρ A=>∃ (x7 x8:Option V) (y:List (eY×ν)) (B G:List V) (i' m':Int),ρ=[some (.ref bg),some w,some (.ref mk),some (.ref t),some (.int (d:Int)),some (.bool nb),some (.ref Y.length),x7,x8,none,none,none,none]/\y.length=j/\
   (nb=false->∀p∈y,p.1=.pos)/\(nb=true->∀p∈y,∃r,p.1=.eG r/\r≠ []/\r.length<=2/\∀q∈r,cE q.1.2/\cE q.2.2)/\(∀p∈y,P p.2)/\
   A[Y.length]?= some (.list G)/\G.length=y.length/\B.length=y.length/\(∀ (i:Nat) (p:eY×ν),y[i]?= some p->∃v u,G[i]?= some (.tup [v,u])/\B[i]?= some u/\jf A w p.1 v/\(∀a,v=.ref a->aH.length<=a)/\nr aH.length A u p.2)/\
   lj A bg mk xs i' m'/\Ix A t ix N/\Kp [bg,mk,Y.length] bf A):=⟨_,rfl⟩
 have lw3:∀ {A:St} {i' m' G},lj A bg mk xs i' m'->A[Y.length]?= some (.list G)->LW [bg,mk,Y.length] A:=λ hb hf b h=>by
  rcases List.mem_cons.mp h with rfl|h
  ·exact⟨_,hb.Eb⟩
  ·rcases List.mem_cons.mp h with rfl|h
   ·exact⟨_,hb.EB⟩
   ·rw[dF]at h;subst h;exact⟨_,hf⟩
 have Hq:∀ (A cI O:St) (y:List (eY×ν)) (B G:List V) (ch:eY) (v u:V) (x:ν),G.length=y.length->B.length=y.length->(∀ (i:Nat) (p:eY×ν),y[i]?= some p->∃v u,G[i]?= some (.tup [v,u])/\B[i]?= some u/\jf A w p.1 v/\(∀a,v=.ref a->aH.length<=a)/\nr aH.length A u p.2)->
   Kp [bg,mk] A cI->jf cI w ch v->(∀a,v=.ref a->aH.length<=a)->nr aH.length cI u x->Kp [Y.length] cI O->
   (G++[V.tup [v,u]]).length=(y++[(ch,x)]).length/\(B++[u]).length=(y++[(ch,x)]).length/\(∀ (i:Nat) (p:eY×ν),(y++[(ch,x)])[i]?= some p->∃v' u',(G++[V.tup [v,u]])[i]?= some (.tup [v',u'])/\(B++[u])[i]?= some u'/\jf O w p.1 v'/\(∀a,v'=.ref a->aH.length<=a)/\nr aH.length O u' p.2):=by
  intro A cI O y B G ch v u x lC qo hv k5 hc Db hn k6;refine(bN (by simp [lC]) (by simp [qo]) (λ i p f=>?_));have nw:∀ {a},aH.length<=a->a∉[bg,mk]:=λ h=>by simp;exact IF b1 b3 H l2 h
  have XX:∀ {a},aH.length<=a->a∉[Y.length]:=λ h=>by simp;exact jI (.n (.k W0 W1)) [.k W2 (.a W1 (.c 1)),.i W2 W0] (.s 0 (.l [1,0,0,1,1]) (.l [1,0,0,1,1])) rfl l2 h
  by_cases q:i<y.length
  ·rw[List.getElem?_append_left q]at f;rwa[cv (hv i p f),v' u' e1 e2 e3 e4 e5];refine(fN v' u' (by exact aU (List.getElem?_append_left (vA lC q)) e1) (by exact aU (List.getElem?_append_left (vA qo q)) e2) ((e3.kp k5 (λ a z=>nw (e4 a z))).kp k6 (λ a z=>XX (e4 a z))) e4 ?_);exact NR.kp _ _ _ _ _ _ (NR.kp _ _ _ _ _ _ e5 k5 (by simp;exact MF b1 b3 H l2)) k6 (by simp;exact zZ l2)
  ·rw[List.getElem?_append_right (by exact iA (.i W0 W1) [.n (.j W1 W0)] (.l [1,1]) rfl q)]at f
   have RI:i - y.length=0:=by
    have:=(cw.mp f).1
    simp at this;exact this
   rw[RI]at f;obtain rfl:=an (f);refine(fN v u (by erw[List.getElem?_append_right (ME lC q),lC,RI];rfl) (by erw[List.getElem?_append_right (ME qo q),qo,RI];rfl) (hc.kp k6 (λ a z=>XX (Db a z))) Db (NR.kp _ _ _ _ _ _ hn k6 (by simp;exact zZ l2)))
 refine qr (xs:=di 0 c) Inv (λ j x ρ A za hI=>?_) (λ ρ A hI=>?_) _ 0 _ bf (Nat.zero_add _) (by subst Gb;exact(y6 none none ([]) ([]) ([]) _ _ rfl rfl (λ _ p h=>(bQ (h))) (λ _ p h=>(bQ (h))) (λ p h=>(bQ (h))) f3 rfl rfl (λ i p h=>(aD (h))) JE Vj .refl))
 ·rwa[zu (Gb▸hI),x7 x8 y B G i' m' bw hl ze uG hP hf lC qo hv mG o9 k];obtain rfl:=bw;rwa[aK (cS za),_ hj];have kl:=k.1;have kl3:=k3.1;have tail:∀ (J:St) (ch:eY) (v:V),(nb=false->ch=.pos)->(nb=true->∃r,ch=.eG r/\r≠ []/\r.length<=2/\∀q∈r,cE q.1.2/\cE q.2.2)->jf J w ch v->(∀a,v=.ref a->aH.length<=a)->(∃i' m',lj J bg mk xs i' m')->Kp [bg,mk] A J->
    ∀ (XD:Option V),px (n+59) [.e (.fY (.v 6) 0 [(.tup [(.v 8),(.call (.k (.fn 88)) [(.v 0),(.v 1),(.v 2),(.v 3),(.v 4)])])])] [some (.ref bg),some w,some (.ref mk),some (.ref t),some (.int (d:Int)),some (.bool nb),some (.ref Y.length),XD,some v,none,none,none,none]
     (gC (ko Q) (Inv (j+1))) E J:=by
   intro J ch v q1 q2 hc Db ⟨NB,Ma,Aq⟩ U XD;have wT:=U.at hf (by simp;exact Ca b1 b3 H);have g1:∀ {Q E},wp (ge (.ref Y.length) 0) Q E J=Q () J:=gK wT (.inl rfl);have X4:=U.1;simp only[ae,cb,eV,af,aq,ak,am,aj,eU,g1,eT,ah,bX,aA,ax,ag,aL,ai,ao,aB];rwa[YT J NB Ma _ Aq (o9.kp U mG.lw (by exact wM (hi.1) (hi.2))),u x cI U7 UM hn Wt JD k5];have JA:=k5.at wT (by simp;exact Ca b1 b3 H);simp only[aA,ai,ao,cJ,gh];rwa[eZ JA (Ho (.i (.a W0 (.c 1)) (.c 1000000)) [.p Y0 (.c 4),.k W1 W2,.k W0 W1,.p (.t W2) (.s Y0 (.c 0))] (.l [1,1,1,0,1,0,1]) rfl c1 hl lC hj),O f6 k6 l6];simp only[aP,aa,aM,be];rwa[cA (Hq A cI O y B G ch v u x lC qo hv (U.trans k5) (hc.kp k5 (λ a z=>by have:=Db a z;simp;exact IF b1 b3 H l2 this)) Db (NR.low _ _ _ _ _ hn (MD l3 kl X4)) k6),z1 z2 z3];have Ad:Kp [bg,mk,Y.length] bf O:=(k.trans ((U.trans k5).wide (by exact Br))).trans (k6.wide (by simp))
   erw[Gb]
   refine(y6 _ _ (y++[(ch,x)]) (B++[u]) _ _ _ rfl (by simp [hl]) (λ e p f=>?_) (λ e p f=>?_) (λ p f=>?_) f6 z1 z2 z3 (JD.AY k6 (by simp;exact B9 b1 H) (by simp;exact B9 b3 H)) ((o9.kp (U.trans k5) mG.lw (by exact wM (hi.1) (hi.2))).kp k6 (.one JA) (by simp;exact B9 lx H)) Ad)
   ·rcases List.mem_append.mp f with f|f
    ·exact ze e p f
    ·rw[dF]at f;subst f;exact q1 e
   ·rcases List.mem_append.mp f with f|f
    ·exact uG e p f
    ·rw[dF]at f;subst f;exact q2 e
   ·rcases List.mem_append.mp f with f|f
    ·exact hP p f
    ·rw[dF]at f;subst f;exact Wt
  obtain ⟨R,hR⟩:∃R:List S,R=[.e (.fY (.v 6) 0 [(.tup [(.v 8),(.call (.k (.fn 88)) [(.v 0),(.v 1),(.v 2),(.v 3),(.v 4)])])])]:=⟨_,rfl⟩;rw[← hR]at tail ⊢
  induction nb with
  |false=>simp only[bt,aO,aN,cQ,ae,az,dB,af,aq,ak,am,aj,aJ,gy,ag,aX,aa];exact tail A .pos .none (λ _=>rfl) (λ z=>(bZ Bool.ctorIdx (z) rfl)) rfl (λ a z=>(bZ ri (z) rfl)) (im _ _ mG) .refl _
  |true=>simp only[bt,aO,aN,cQ,ae,az,dB,af,aq,ak,am,aj,aQ,gy,ax,ag,aL,ah,aA,ai,ao,aB];rwa[c86 mG,l J a NB Ma Aq ha4 C3 F6 Vo U al];simp only[aX,aO,aN,aa];exact tail J (.eG l) (.ref a) (λ z=>(bZ Bool.ctorIdx (z) rfl)) (λ _=>(dP l rfl C3 F6 Vo)) (aw a rfl ha4) (λ b z=>by obtain rfl:=V.ref.inj (z);exact MD l3 kl al) (im _ _ Aq) U _
 ·rwa[zu (Gb▸hI),x7 x8 y B G i' m' b7 hl ze uG hP hf lC qo hv mG o9 k];obtain rfl:=b7;rw[bS]at hl;have kl:=k.1;have kl3:=k3.1;have Ad:=ky.gG ((k3.wide (W₂:=[bg,mk,Y.length]) (by exact Br)).trans k) (by have:=k1.1;simp;exact MC H);have XG:∀ (o:List (eY×ν)),(o=[]∨∃x,o=[(.gc,x)])->(∀p∈o,P p.2)->A6 P (y++o):=λ o ho JP=>⟨(gj y o rfl ho (by
   induction nb with
   |false=>exact .inl (ze rfl)
   |true=>exact .inr (uG rfl)) (pW (.i W0 (.c 3)) [.p Y0 (.c 4),.k W0 W1,.o (.e (.l (.c 0) (.s Y0 (.c 0))) (.q (.t W1) (.s Y0 (.c 0)))) (.e (.l (.s Y0 (.c 0)) (.c 0)) (.k W1 (.c 0)))] (.s 3 (.l [0,1,0,1,1,1]) (.l [0,1,0,1,0,1])) rfl c1 hl (Mine.L.bO _))),λ p f=>by
    rcases List.mem_append.mp f with f|f
    ·exact hP p f
    ·exact JP p f⟩
  have cT:∀ (O:St) (y:List (eY×ν)) (B G:List V),O[Y.length]?= some (.list G)->G.length=y.length->B.length=y.length->(∀ (i:Nat) (p:eY×ν),y[i]?= some p->∃v u,G[i]?= some (.tup [v,u])/\B[i]?= some u/\jf O w p.1 v/\(∀a,v=.ref a->aH.length<=a)/\nr aH.length O u p.2)->gx nr O s.length w Y.length y B:=by intro O y B G h1 h2 h3 h4;refine(jk G h1 h2 h3 k1.1 (λ i p f=>?_));rwa[cv (h4 i p f),v u e1 e2 e3 e4 e5];have:=ky.1;exact(fN v u e1 e2 e3 (λ a z=>by have:=e4 a z;exact wO (.i W0 W1) [.k W2 W0,.k W3 (.a W2 (.c 1)),.i W3 W1] (.l [1,0,1,0,1,1]) rfl H l2 this) (NR.low _ _ _ _ _ e5 this))
  simp only[aa,ae,bv,aI,ax,ag,aL,ah,af,ak,am,aj,aA,ai,ao,aB];rwa[D6 mG (by decide),r' J r0' r1' Aq U l4];have g1:∀ {Q E},wp (bz .Eq (.int r') (.int 1)) Q E J=Q (.bool (decide (r'=1))) J:=iM AF;have wT:=U.at hf (by simp;exact Ca b1 b3 H);have g2:∀ {Q E},wp (ge (.ref Y.length) 0) Q E J=Q () J:=gK wT (.inl rfl);simp only[bU,ag,aS,g1];by_cases q:r'=1
  ·simp only[bq q,aQ,c7,ae,cb,eV,af,aq,ak,am,aj,eU,g2,eT,ah,bX,ag,aA,ax,aL,ai,ao,aB];rwa[YT J _ _ _ Aq (o9.kp U mG.lw (by exact wM (hi.1) (hi.2))),u x cI U7 UM hn Wt JD k5];have JA:=k5.at wT (by simp;exact Ca b1 b3 H);simp only[aA,ai,ao,cJ,gh];rwa[eZ JA (Ho (.i (.a W0 (.c 1)) (.c 1000000)) [.p Y0 (.c 4),.k W1 W2,.k W0 W1,.o (.e (.l (.c 0) (.s Y0 (.c 0))) (.q (.t W2) (.s Y0 (.c 0)))) (.e (.l (.s Y0 (.c 0)) (.c 0)) (.k W2 (.c 0)))] (.s 4 (.l [0,1,0,1,1,1,0,1]) (.l [0,1,0,1,0,1,0,1])) rfl c1 hl lC (Mine.L.bO _)),O f6 k6 l6];simp only[aP,aa,aM,ae,aT,af,aq,ak,am,aj,br,aF,aG];exact cA (Hq A cI O y B G .gc (.str "others") u x lC qo hv (U.trans k5) rfl (fun a z=>(bZ ri (z) rfl)) (NR.low _ _ _ _ _ hn (wO (.i W0 W1) [.k W2 W0,.i W2 W3,.k W1 W3] (.l [1,0,1,1,0,1]) rfl l3 kl l4)) k6) fun z1 z2 z3=>h (y++[(.gc,x)]) (B++[u]) _ O _ _ (cT O _ _ _ f6 z1 z2 z3) (XG _ (.inr ⟨x,rfl⟩) (fun p f=>by rw[dF]at f;subst f;exact Wt)) (JD.AY k6 (by simp;exact B9 b1 H) (by simp;exact B9 b3 H)) ((Ad.trans (U.trans k5)).gG k6 (by have:=k1.1;simp;exact MC H))
  ·simp only[bA q,aJ,c7,aM,aa,ae,aT,af,aq,ak,am,aj,br,aF,aG];have nw:∀ {a},aH.length<=a->a∉[bg,mk]:=λ h=>by simp;exact IF b1 b3 H l2 h
   have hw:=XG [] (.inl rfl) (λ p f=>(bQ (f)));rw[List.append_nil]at hw;refine h y B _ J _ _ (cT J _ _ _ wT lC qo λ i p f=>?_) hw Aq (Ad.trans U);exact cv (hv i p f) λ v' u' e1 e2 e3 e4 e5=>(fN v' u' e1 e2 (e3.kp U (λ a z=>nw (e4 a z))) e4 (NR.kp _ _ _ _ _ _ e5 U (by simp;exact MF b1 b3 H l2)))
end
section
variable{n:Nat}{E:Str->St->Prop}{s:St}{bg mk t ix:Nat}{xs:List Int}{i m:Int}{w:V}
abbrev QR:List (eY×End)->Prop:=A6 λ e=>0<=e.2
abbrev Xn:List (eY×List (eY×End))->Prop:=A6 QR
theorem Qz(y:lj s bg mk xs i m)(r:Ix s t ix N)(u:ix≠bg/\ix≠mk)(x:N<=d+1)(l:d<=100)
  (h:∀b j c a g f,gx (mY w) a s.length w c b j->QR b->lj a bg mk xs g f->Kp [bg,mk] s a->Q (.ref c) a):
  pc (n+60) (.fn 87) [.ref bg,w,.ref mk,.ref t,.int (d:Int)] Q E s:=
 Zr (Rs w) y r u (λ a g f H p o q=>WY (n:=n+35) p o x l λ e z A B v G k=>q _ e z A B rfl v G k) h
theorem WX(r:lj s bg mk xs i m)(f:Ix s t ix 2)(q:ix≠bg/\ix≠mk)(h:∀b u a e c,pP w t s.length a u b->QR b->lj a bg mk xs e c->Kp [bg,mk] s a->Q u a):
  pc (n+64) (.fn 88) [.ref bg,w,.ref mk,.ref t,.int ((0:Nat):Int)] Q E s:=by
 rwa[dm (id f),J H z y x v];have B:∀ {Q E},wp (cM (.ref t) 16) Q E s=Q (.ref ix) s:=dg z rfl y;have A:∀ {Q E},wp (iu .len [.ref ix]) Q E s=Q (.int 2) s:=by intro Q E;erw[len_list x,v];rfl
 have G:decide (((0:Nat):Int)+1<2)=true:=rfl;refine(ba (ρ:=[some (.ref bg),some (w),some (.ref mk),some (.ref t),some (.int ((0:Nat):Int)),none,none,none,none]) (by decide) rfl rfl).mpr ?_;simp only[JS,ae,bv,aI,bG,af,aq,ak,am,aj,bU,ag,cz,dp,ax,aL,ah,bF,ci,B,aA,ai,ao,aB,aZ,A,aS,la,G,aQ,c7,aT,bX]
 erw[show((0:Nat):Int)+1=((1:Nat):Int)from rfl]
 rwa[Qz (d:=1) r f q (by decide) (by decide),b g j a e c p o l k];simp only[aA,ai,ao,xp,br,aF,aG];exact h b _ a e c (ff j g rfl p) o l k
theorem WZ(v:lj s bg mk xs i m)(o:Ix s t ix 2)(f:ix≠bg/\ix≠mk)
  (h:∀b g c a e d,gx (pP w t) a s.length w c b g->Xn b->lj a bg mk xs e d->Kp [bg,mk] s a->Q (.ref c) a):
  pc (n+69) (.fn 87) [.ref bg,w,.ref mk,.ref t,.int ((0:Nat):Int)] Q E s:=
 Zr (n:=n+9) (XY w t) v o f (λ a e d B l j q=>WX l j f λ b u x y z r p A k=>q u b x y z r p A k) h
theorem D5(h:∀o g,o[s.length]?= some (.inst 29 g)->g.lookup 8=some a->Kp [] s o->Q (.ref s.length) o):pc (n+10) (.cls 29) [a,b] Q E s:=by
 erw[call_cls rfl]
 rwa[eA,ay f1 k1 l1];refine(gX (ρ:=[some (.ref s.length),some (a),some (b)]) rfl).mpr ?_;have d:∀ {o:St} {g:List (Nat×V)} {j:Nat} {v:V} {Q:Unit->St->Prop},o[s.length]?= some (.inst 29 g)->g.lookup 8=some a->j≠8->j<bH.length->Kp [] s o->(∀p ef,p[s.length]?= some (.inst 29 ef)->ef.lookup 8=some a->Kp [] s p->Q () p)->wp (gY (.ref s.length) j v) Q E o:=by
  intro o g j v Q h1 h2 h3 h4 k h5;refine dI h1 rfl h4 λ p f k' l=>h5 p _ f ?_ (k.gG k' (by exact m2));have:∀ (g:List (Nat×V)),g.lookup 8=some a->(iR j v g).lookup 8=some a:=by
   intro g
   induction g with
   |nil=>intro h;exact aD (h)
   |cons e r ih=>
    obtain ⟨k,y⟩:=e;intro h;show(if k=j then(j,v)::r else(k,y)::iR j v r).lookup 8=_;rw[List.lookup_cons]at h;by_cases q:k=j
    ·subst q
     erw[if_pos rfl,List.lookup_cons]
     have:(8==k)=false:=by simp;exact mF (.n (.k (.c 8) W0)) [.n (.k W0 (.c 8))] (.s 0 (.s 2 (.l [1,1]) (.l [1,0,1])) (.s 2 (.l [1,1]) (.l [1,0,1]))) rfl h3
     rw[this]at h ⊢;exact h
    ·erw[if_neg q,List.lookup_cons]
     generalize z:(8==k)=TM;induction TM with
     |true=>rw[z]at h;exact h
     |false=>rw[z]at h;exact ih h
  exact this g h2
 simp only[Qp,ae,au,af,aq,ak,am,aj,aR,aY];rwa[dI f1 rfl (by decide),aH f2 k2 l2];have FU:=k1.gG k2 (by exact m2);have e2:(iR 8 a []).lookup 8=some a:=rfl;generalize iR 8 a []=YY at f2 e2;simp only[aP,aa,ae,au,af,aq,ak,am,aj,aR,aY];rwa[d f2 e2 (by decide) (by decide) FU,bf fs3 f3 e3 k3];simp only[aP,aa,ae,au,ag,aR,af,ak,am,aj,aY];rwa[d f3 e3 (by decide) (by decide) k3,bK fs4 f4 e4 k4];simp only[aP,aa,ae,au,ag,aR,af,ak,am,aj,aY];rwa[d f4 e4 (by decide) (by decide) k4,cI fs5 f5 e5 k5];simp only[aP,aa,ae,au,ag,aR,af,ak,am,aj,aY];rwa[d f5 e5 (by decide) (by decide) k5,dj fs6 f6 e6 k6];simp only[aP,aa,ae,au,ag,aR,af,ak,am,aj,aY];rwa[d f6 e6 (by decide) (by decide) k6,pz fs7 f7 e7 k7];simp only[aP,aa,ae,au,bx,ai,b8];rwa[bk (by simp),H3 f8 k8 l8];simp only[aR,af,ak,am,aj,aY];rwa[d (k8.bM f7) e7 (by decide) (by decide) (k7.trans k8),H1 fs9 f9 e9 k9];simp only[aP,aa,ae,au,ag,aR,af,ak,am,aj,aY];rwa[d f9 e9 (by decide) (by decide) k9,yv ab5 Qd e10 NA];simp only[aP,aa,ae,au,bX,ah,ag,aA,ai,ao,cJ,aR,af,ak,am,aj,aY];rwa[d Qd e10 (by decide) (by decide) NA,ln ab4 Du e11 I1];simp only[aP,aa,ae,au,bx,ai,b8];rwa[bk (by simp),Rn R3 ky l12];simp only[aR,af,ak,am,aj,aY];rwa[d (ky.bM Du) e11 (by decide) (by decide) (I1.trans ky),Rm ab3 f13 e13 uE];simp only[aP,aa,ae,au,ag,aR,af,ak,am,aj,aY];rwa[d f13 e13 (by decide) (by decide) uE,Rl ab2 f14 e14 FS];simp only[aP,aa,ae,au,ag,aR,af,ak,am,aj,aY];rwa[d f14 e14 (by decide) (by decide) FS,Rk ab1 f15 e15 Hv];simp only[aP,aa,ae,au,bx,ai,b8];rwa[bk (by simp),Rj f16 Yc l16];simp only[aR,af,ak,am,aj,aY];rwa[d (Yc.bM f15) e15 (by decide) (by decide) (Hv.trans Yc),Ri ab0 f17 e17 H];simp only[aP,aa,ae,au,bx,ai,b8];rwa[bk (by simp),Rh f18 Yb l18];simp only[aR,af,ak,am,aj,aY];rwa[d (Yb.bM f17) e17 (by decide) (by decide) (H.trans Yb),Rf aa9 f19 e19 G];simp only[aP,aa,ae,au,ag,aR,af,ak,am,aj,aY];rwa[d f19 e19 (by decide) (by decide) G,Rd aa8 f20 e20 B];simp only[aP,aa,ae,au,ag,aR,af,ak,am,aj,aY];rwa[d f20 e20 (by decide) (by decide) B,Rc aa7 f21 e21 A];simp only[aP,aa,ae,au,ag,aR,af,ak,am,aj,aY];rwa[d f21 e21 (by decide) (by decide) A,Rb aa6 Y e22 x];simp only[aP,aa,ae,au,ag,aR,af,ak,am,aj,aY];rwa[d Y e22 (by decide) (by decide) x,Ra aa5 U e23 FR];simp only[aP,aa,ae,au,ag,aR,af,ak,am,aj,aY];rwa[d U e23 (by decide) (by decide) FR,Q9 aa4 O e24 U6];simp only[aP,aa,ae,au,ag,aR,af,ak,am,aj,aY];rwa[d O e24 (by decide) (by decide) U6,Q8 aa3 L e25 Rv];simp only[aP,aa,ae,au,dh];rwa[eA,Q7 f26 X9 l26];simp only[aR,af,ak,am,aj,aY];rwa[d (X9.bM L) e25 (by decide) (by decide) (Rv.trans X9),EY Wx J e27 u];simp only[aP,aa,aM,fq,sv];exact h EY Wx J e27 u
end
theorem jr(j:Nat)(v:V):∀a:List (Nat×V),(iR j v a).lookup j=some v
 | []=>by simp [iR]
 |(k,y)::r=>by
  show(if k=j then(j,v)::r else(k,y)::iR j v r).lookup j=_;by_cases q:k=j
  ·erw[if_pos q];simp [List.lookup_cons]
  ·erw[if_neg q,List.lookup_cons]
   have:(j==k)=false:=by simp;exact iA (.n (.k W0 W1)) [.n (.k W1 W0)] (.s 0 (.s 2 (.l [1,1]) (.l [1,0,1])) (.s 2 (.l [1,1]) (.l [1,0,1]))) rfl q
   exact aU this (jr j v r)
theorem dw(c:i≠j)(v:V):∀ {b:List (Nat×V)},b.lookup i=some a->(iR j v b).lookup i=some a
 | [],h=>aD (h)
 |(k,y)::r,h=>by
  show(if k=j then(j,v)::r else(k,y)::iR j v r).lookup i=_;rw[List.lookup_cons]at h;by_cases q:k=j
  ·subst q
   erw[if_pos rfl,List.lookup_cons]
   have:(i==k)=false:=by simp [c]
   rw[this]at h ⊢;exact h
  ·erw[if_neg q,List.lookup_cons]
   cases z:(i==k)with
   |true=>rw[z]at h;exact h
   |false=>rw[z]at h;exact dw c v h
section
variable{n:Nat}{E:Str->St->Prop}{s:St}
theorem Xg(g:s[t]?= some (.inst 29 j))(h:∀b c,b[t]?= some (.inst 29 c)->(∀i a,i≠9->j.lookup i=some a->c.lookup i=some a)->Kp [t] s b->Q (.ref t) b):pc (n+10) (.fn 34) [.ref t,v] Q E s:=by refine(ba (ρ:=[some (.ref t),some (v)]) (by decide) rfl rfl).mpr ?_;simp only[PV,ae,au,af,aq,ak,am,aj,aR,aY];rwa[dI g rfl (by decide),l k d m];simp only[aP,aa,ae,aT,af,ak,am,aj,br,aF,aG];exact h l _ k (λ i a e f=>dw e v f) d
theorem c32(h:∀d e,d[s.length]?= some (.inst 29 e)→e.lookup 8=some (.str "int")→Kp [] s d→Q (.ref s.length) d):pc (n+20) (.fn 32) [a,b,c] Q E s:=by refine(ba (ρ:=[some (a),some (b),some (c),none,none]) (by decide) rfl rfl).mpr ?_;simp only[PX,ae,az,ax,ag,aL,ah,aA,af,ak,am,aj,ai,ao,aB];rwa[D5,r e l m i];simp only[aX,aO,aN,aa,ae,au,af,aq,ak,am,aj,aR,aY];rwa[dI l rfl (by decide),t k g q];simp only[aP,aa,ae,au,af,aq,ak,am,aj,aR,aY];rwa[dI k rfl (by decide),o j f p];simp only[aP,aa,ae,aT,af,aq,ak,am,aj,br,aF,aG];exact h o _ j (dw (by decide) _ (dw (by decide) _ m)) ((i.gG g (by exact m2)).gG f (by exact m2))
theorem c37(h:∀a b,a[s.length]?= some (.inst 29 b)→b.lookup 8=some (.str "int")→Kp [] s a→Q (.ref s.length) a):pc (n+40) (.fn 37) [.int 16] Q E s:=by
 have f:∀ {Q E} {s:St},wp (jo .LShift (.int 1) (.int (16 - 1))) Q E s=Q (.int 32768) s:=fun{Q E s}=>bJ rfl;refine(ba (ρ:=[some (.int 16),none,none,none,none,none]) (by decide) rfl rfl).mpr ?_;simp only[PS,ae,iE,ax,ag,aL,ah,af,ak,am,aj,aA,ai,ao,aB];have c:∀ {Q:V->St->Prop},Q (.tup [.int (-32768),.int 32767]) s->pc (n+38) (.fn 31) [.int 16] Q E s:=by intro Q h;refine(ba (ρ:=[some (.int 16)]) (by decide) rfl rfl).mpr ?_;simp only[PY,ae,aT,bX,ah,nV,bG,ag,bU,af,ak,am,aj,cz,gu,f,su,sg,aA,ai,ao,cJ,br,aF,aG];exact h
 refine c ?_;simp only[qd,bY,aO,aN,vE,aa,ae,aT,ax,ag,aL,ah,aA,af,aq,ak,am,aj,ai,ao,aB];rwa[c32,o b i k e];simp only[aA,ah,ag,ai,ao,aB];rwa[Xg i,l m g j d];simp only[br,aF,aG];exact h l m g (j 8 _ (by decide) k) (e.gG d (by exact m2))
theorem Zw(p:s[x]?= some (.list o))(h:∀d b f,d[s.length]?= some (.inst 29 b)→b.lookup 8=some (.str "array")→b.lookup 16=some (.ref f)→b.lookup 17=some c→b.lookup 18=some (.bool false)→d[f]?= some (.list o)→s.length<f→Kp [] s d→Q (.ref s.length) d):pc (n+20) (.fn 33) [a,.ref x,c,.bool false] Q E s:=by refine(ba (ρ:=[some (a),some (.ref x),some (c),some (.bool false),none,none,none]) (by decide) rfl rfl).mpr ?_;simp only[PW,ae,az,ax,ag,aL,ah,aA,af,ak,am,aj,ai,ao,aB];rwa[D5,y b m v l];have e:=bD m;simp only[aX,aO,aN,aa,ae,au,ax,ag,aL,ah,af,aq,ak,am,aj,aA,ai,ao,aB,aZ];rwa[nB (l.bM p),L u k G];simp only[aR,af,aq,ak,am,aj,aY];rwa[dI (k.bM m) rfl (by decide),H t j B];simp only[aP,aa,ae,au,af,aq,ak,am,aj,aR,aY];rwa[dI t rfl (by decide),J r i A];simp only[aP,aa,ae,au,af,aq,ak,am,aj,aR,aY];rwa[dI r rfl (by decide),w q g z];simp only[aP,aa,ae,aT,af,aq,ak,am,aj,br,aF,aG];refine h w _ y.length q (dw (by decide) _ (dw (by decide) _ (dw (by decide) _ v))) (dw (by decide) _ (dw (by decide) _ (jr _ _ _))) (dw (by decide) _ (jr _ _ _)) (jr _ _ _) ?_ e (((((l.trans k).gG j (by exact m2)).gG i (by exact m2))).gG g (by exact m2));exact g.at (i.at (j.at u (by simp;exact AX e)) (by simp;exact AX e)) (by simp;exact AX e)
theorem c84(h:∀g x tl f Av cp,g[tl]?= some (.list [.ref f,.ref Av])->fP g f [(-2,6)] cp x->fP g Av [(-2,6),(1,4)] cp x->Kp [] s g->Q (.tup [.ref x,.ref tl]) g):pc (n+60) (.fn 84) [] Q E s:=by
 refine(ba (ρ:=[none,none,none,none,none,none,none,none,none]) (by decide) rfl rfl).mpr ?_;simp only[PD,ae,az,ax,ag,aL,ah,aA,ai,ao,aB];rwa[c37,q fw f1 e1 G];simp only[aX,aN,aa,ae,az,ax,ag,aL,ah,af,ak,am,aj,aA,bX,nV,su,sg,ai,ao,xq,aB];rwa[nZ,aH f2 k2 l2];simp only[aX,aO,aN,aa,ae,az,ax,ag,aL,ah,af,ak,am,aj,aA,bX,ai,ao,xq,aB];rwa[nZ,bf f3 B l3];simp only[aX,aO,aN,aa,ae,az,ax,ag,aL,ah,aA,bx,af,aq,ak,am,aj,ai,ao,b8];rwa[bk (by simp),bK f4 u l4];simp only[aA,ah,af,aq,ak,am,aj,ag,ai,ao,aB];rwa[Zw f4,cI fl U8 g1 g2 g3 g4 g5 g6 O k5];simp only[aA,ah,ag,ai,ao,aB];rwa[Xg g1,p U RY w z];have b1:=bD f1;have b2:=bD f2;have b3:=bD f3;have b4:=bD f4;have b5:=bD g1;have b6:=bD g6;have X3:∀ {b o},cI[b]?= some o->b≠bK.length->p[b]?= some o:=λ e L=>z.at e (by exact jh (L));simp only[aX,aO,aN,aa,ae,az,ax,ag,aL,ah,aA,bx,af,aq,ak,am,aj,bX,ai,ao,xq,aB];rwa[nZ,pz f7 k7 l7];simp only[aA,ai,ao,b8];rwa[bk (by simp),H3 f8 k8 l8];simp only[aA,ah,af,aq,ak,am,aj,ag,ai,ao,aB];rwa[Zw f8,H1 fg J j1 j2 j3 j4 j5 j6 j7 k9];simp only[aA,ah,ag,ai,ao,aB];rwa[Xg j1,yv Y H v NA];have b9:=bD j1;have A:=z.1;have I2:∀ {b o},H1[b]?= some o->b≠H3.length->yv[b]?= some o:=λ e L=>NA.at e (by exact jh (L));have U4:Kp [] p H1:=(k7.trans k8).trans k9;simp only[aX,aO,aN,aa,ae,aT,bX,ah,af,ak,am,aj,aA,bx,aq,ai,ao,b8];rwa[bk (by simp),m Du t l11];simp only[aA,ai,ao,cJ,br,aF,aG];have l79:=U4.1;have l10:=NA.1;have y:∀ {b o},p[b]?= some o->m[b]?= some o:=λ e=>t.bM (I2 (U4.bM e) (by have:=bD e;have:=k7.1;omega));have Ue:∀ {b o},bK[b]?= some o->m[b]?= some o:=λ e=>y (X3 (k5.bM e) (by have:=bD e;exact AW this));have hw:=Ue (u.bM (B.bM (k2.bM f1)));have h1:=Ue (u.bM (B.bM f2));have h2:=Ue (u.bM f3);have XN:Sub m q.length (-2) 6:=(aw _ h1 rfl);have s7:=t.bM (I2 (k9.bM (k8.bM f7)) (jI (.n (.k W0 W1)) [.k W2 (.a W0 (.c 1)),.k W1 (.a W2 (.c 1))] (.s 0 (.l [0,1,0,1,0,1]) (.l [0,1,0,1,0,1])) rfl l7 l8));have Ad:Kp [] s m:=((((((((G.trans k2).trans B).trans u).trans k5).gG z (by have:=G.1;simp;exact Fx (.i W0 W1) [.k W2 (.a W3 (.c 1)),.k W4 (.a W2 (.c 1)),.k W1 (.a W4 (.c 1)),.j W0 W3] (.l [1,0,1,0,1,0,1,1]) rfl l2 l3 l4 b1)).trans U4).gG NA (by have:=G.1;simp;exact UR (.i W0 W1) [.k W2 (.a W3 (.c 1)),.k W4 (.a W2 (.c 1)),.k W5 (.a W4 (.c 1)),.j W5 W6,.j W0 W3,.j W6 W7,.k W8 (.a W9 (.c 1)),.k W1 (.a W8 (.c 1)),.i W7 W9] (.l [1,0,1,0,1,0,1,1,1,1,0,1,0,1,1]) rfl l2 l3 l4 O b1 b6 l7 l8 A))).trans t;refine h m s.length _ bK.length H3.length aH.length Du ?_ ?_ Ad
 ·refine(m5 U U8 ([.ref q.length]) (y RY) (w 16 _ (by decide) g3) (w 17 _ (by decide) g4) (w 8 _ (by decide) g2) (w 18 _ (by decide) g5) (y (X3 g6 (AX O))) rfl (λ i r d=>?_) (AX O) ⟨_,fw,h2,rfl,rfl,hw,e1⟩)
  match i,d with
  |0,d=>obtain rfl:=an (d);exact(aw q.length rfl XN)
  |i+1,d=>exact aD (d)
 ·refine(m5 Y J ([.ref q.length,.ref p.length]) (t.bM H) (v 16 _ (by decide) j3) (v 17 _ (by decide) j4) (v 8 _ (by decide) j2) (v 18 _ (by decide) j5) (t.bM (I2 j6 (AX j7))) rfl (λ i r d=>?_) (AX j7) ⟨_,fw,h2,rfl,rfl,hw,e1⟩)
  match i,d with
  |0,d=>obtain rfl:=an (d);exact(aw q.length rfl XN)
  |1,d=>obtain rfl:=an (d);exact(aw p.length rfl ⟨_,s7,rfl⟩)
  |i+2,d=>exact aD (d)
end
noncomputable def gn(r:Rg):Bool:=decide (r.1<=r.2)
noncomputable def pX(a b:Int):Int:=if b<a then b else a
noncomputable def pY(a b:Int):Int:=if a<b then b else a
noncomputable def tG(rs:List Rg):Option Rg:=match rs.filter gn with
 | []=>rs.head?
 |x::l=>some ((l.map (·.1)).foldl pX x.1,(l.map (·.2)).foldl pY x.2)
theorem lO:∀ (l:List Int) (x:Int),l.foldl pX x<=x
 | [],x=>Int.le_refl _
 |y::l,x=>by
  have:=lO l (pX x y);show l.foldl pX (pX x y)<=x;have h:pX x y<=x:=by unfold pX;split<;> omega
  exact yF (.l Y0 Y1) [.l Y0 Y2,.l Y2 Y1] (.l [1,1,1]) rfl this h
theorem lP:∀ (l:List Int) (x:Int),x<=l.foldl pY x
 | [],x=>Int.le_refl _
 |y::l,x=>by
  have:=lP l (pY x y);show x<=l.foldl pY (pY x y);have h:x<=pY x y:=by unfold pY;split<;> omega
  exact yF (.l Y0 Y1) [.l Y2 Y1,.l Y0 Y2] (.l [1,1,1]) rfl this h
theorem Ab(a:List Rg)(r:Rg):dG (tG a) r=tG (a++[r]):=by
 unfold tG;rw[List.filter_append];by_cases b:r.1<=r.2
 ·have d: [r].filter gn=[r]:=by simp [gn,b]
  rw[d];generalize c:a.filter gn=i;induction i with
  |nil=>
   induction a with
   |nil=>rfl
   |cons p a=>
    have f: ¬ p.1<=p.2:=by intro z;have:p∈ (p::a).filter gn:=List.mem_filter.mpr ⟨.head _,bq z⟩;rw[c]at this;exact bQ (this)
    show dG (some p) r=some r;exact tA (oA (.p Y0 Y1) [.n (.l Y1 Y0)] (.l [1,1]) rfl f) b
  |cons x l=>
   have e:x.1<=x.2:=by
    have:x∈a.filter gn:=by exact aU c (.head _)
    have:=(List.mem_filter.mp this).2;exact of_decide_eq_true this
   have h:=lO (l.map (·.1)) x.1;have g:=lP (l.map (·.2)) x.2;show dG (some ((l.map (·.1)).foldl pX x.1,(l.map (·.2)).foldl pY x.2)) r=_
   erw[(tB (by show ¬ (l.map (·.1)).foldl pX x.1 >(l.map (·.2)).foldl pY x.2;exact Ni (.n (.p Y0 Y1)) [.l Y2 Y3,.l Y1 Y2,.l Y3 Y0] (.s 0 (.l [1,1,1,1]) (.l [1,1,1,1])) rfl e h g) b)]
   show _=some (((l++[r]).map (·.1)).foldl pX x.1,((l++[r]).map (·.2)).foldl pY x.2)
   erw[List.map_append,List.map_append,List.foldl_append,List.foldl_append]
   rfl
 ·have d: [r].filter gn=[]:=by simp [gn,b]
  rw[d,List.append_nil];generalize c:a.filter gn=j;induction j with
  |nil=>
   induction a with
   |nil=>rfl
   |cons p a=>exact mX b
  |cons x l=>exact mX b
theorem xl(rs:List Rg):jv rs=tG rs:=by
 have:∀ (rs a:List Rg),rs.foldl dG (tG a)=tG (a++rs):=by
  intro rs
  induction rs with
  |nil=>intro a;simp
  |cons r rs b=>intro a;show rs.foldl dG (dG (tG a) r)=_;rw[Ab,b];simp
 exact this rs []
section
variable{n:Nat}{E:Str->St->Prop}{s:St}
theorem qg(l:List Int):jj (l.map .int)=some l:=by
 induction l with
 |nil=>rfl
 |cons x l a=>show(jj (l.map .int)).map (x:: ·)=_;exact aU a rfl
theorem GU(h:s[d]?= some (.list ((x::l).map .int))):wp (iu .min [.ref d]) Q E s=Q (.int (l.foldl pX x)) s:=
 bJ (by show gO ((vL s (.ref d)).bind _) _ s=_;rw[lJ h];show gO ((jj ((x::l).map .int)).bind _) _ s=_;rw[qg];rfl)
theorem GV(h:s[d]?= some (.list ((x::l).map .int))):wp (iu .max [.ref d]) Q E s=Q (.int (l.foldl pY x)) s:=
 bJ (by show gO ((vL s (.ref d)).bind _) _ s=_;rw[lJ h];show gO ((jj ((x::l).map .int)).bind _) _ s=_;rw[qg];rfl)
theorem sJ(c:s[x]?= some (.list b))(a:s[y]?= some (.list [])):lQ dY s (.ref x) (.ref y)=some (decide (b=[])):=by
 refine un c a (λ h=>?_) (λ h=>?_) (λ h=>?_)
 ·have:b=[]:=List.eq_nil_of_length_eq_zero h;subst this;rfl
 ·rwa[bA,z,z];exact h rfl
 ·subst h;rw[c]at a;cases a;rfl
theorem wg{a:Nat}{rs:List Rg}{c:Int}{f:Rg->Int}{Q:V->St->Prop}(t:s[a]?= some (.list (rs.map du)))(z:∀ {Q:V->St->Prop} {E s} (r:Rg),wp (cK (du r) (.int c)) Q E s=Q (.int (f r)) s)(y:rs.length<=1000000)
  (h:∀b,b[s.length]?= some (.list ((rs.map f).map .int))->Kp [] s b->b.length=s.length+1->Q (.ref s.length) b):
  pw (sf (iq (SS (n+10)) (gq (SS (n+10)) (.i (.v 1) (.k (.int c))) []) (.one 1) [] (.inl a) [none,none])) (tO Q E) E s:=by
 refine fB (eO t ?_);refine en fH (λ i o j b=>b=s/\(∃p,j=[none,p])/\o=((rs.take i).map f).map .int) (λ i o j b w=>by rwa[aK w,e _,-w];exact aU e t) (λ i o v j b d g=>?_) _ 0 [] _ s (by exact Nat.zero_add _) (Nat.zero_le _) (bN rfl ⟨none,rfl⟩ rfl) λ x b g=>?_
 ·rwa[cA g,H u G];try clear g;subst H;rwa[aW u,p B];try clear u;subst B;subst G
  rw[cg]at d;generalize m:rs[i]?= J;induction J with
  |none=>rw[m]at d;exact aD (d)
  |some r=>
   rw[m]at d;obtain rfl:=an (d);simp only[fF,bt,aO,aN,ie,eJ,fG,jm,aV,af,aq,ak,am,aj,bU,ag,bp,z,jO];refine(bN trivial ⟨_,rfl⟩ ?_)
   erw[List.take_add_one,m];simp
 ·rwa[cA g,A _ q];try clear g;subst A
  rw[List.nil_append,bo,List.take_length]at q
  erw[m3,q]
  exact bk (by rw[bo,bo];exact mF (.i W0 (.c 1000000)) [.i W0 (.c 1000000)] (.l [1,1]) rfl y) h
theorem c89{a:Nat}{d:List Ch}{Q:V->St->Prop}(ht:qQ s a d)(hc:∀c∈d,∃rs,c=.eG rs/\rs.length<=1000)(uc:d.length<=100)(iI:bj d≠ [])(h:∀g,Kp [] s g->Q (hG (jv (bj d))) g):pc (n+30) (.fn 89) [.ref a] Q E s:=by
 rwa[bR ht,vs ha dT hv,-ht];have KW:(bj d).length<=100000:=by
  have:∀ (d:List Ch),(∀c∈d,∃rs,c=.eG rs/\rs.length<=1000)->(bj d).length<=1000 * d.length:=by
   intro d
   induction d with
   |nil=>intro _;simp [bj]
   |cons c d ih=>intro h;rwa[ac (h c (.head _)),rs fO h1];subst fO;have:=ih λ c hc=>h c (.tail _ hc);simp only[bj,List.length_append,List.length_cons];exact MZ h1 this
  have:=this d hc;exact iA (.i W0 (.c 100000)) [.i W1 (.c 100),.i W0 (.m 1000 W1)] (.l [1,1000,1]) rfl uc this
 refine(ba (ρ:=[some (.ref a),none,none,none,none]) (by decide) rfl rfl).mpr ?_;rw[show Dn.body=.a (.one 1) (.comp [none,none,none,none] (.v 3) [((.m [1,2]),(.inl (.v 0)),[]),((.one 3),(.inl (.v 1)),[])])::
  .a (.one 2) (.comp [none,none] (.v 1) [((.one 1),(.inl (.v 1)),[(.c .LtE (.i (.v 1) (.k (.int 0))) (.i (.v 1) (.k (.int 1))))])])::Dn.body.drop 2 from rfl]
 obtain ⟨R,hR⟩:∃R,R=Dn.body.drop 2:=⟨_,rfl⟩;refine fM hR ?_
 erw[ae,az,fJ]
 simp only[kb,af,ak,am,aj,iF,iH];refine fB (eO ha ?_);refine en fH (λ i o p g=>g=s/\(∃G x2 A,p=[none,G,x2,A])/\o=(bj (d.take i)).map du) (λ i o p g Pd=>by rwa[aK Pd,e _,-Pd];exact aU e ha) (λ i o v p g u t=>?_) _ 0 [] _ s (by exact Nat.zero_add _) (Nat.zero_le _) (bN rfl (Ah none none none rfl) rfl) λ x g t=>?_
 ·rwa[cA t,gU ip iB];try clear t;subst gU;rwa[kW ip,G x2 A d8];try clear ip;subst d8;subst iB
  have zi:i<d.length:=by exact fM dT ((cw.mp u).1)
  rwa[ac (hv i d[i] (bT zi)),v' e1 e2];rwa[ac (hc d[i] (List.getElem_mem zi)),rs t9 _];rw[u]at e1;obtain rfl:=an (e1);rw[t9]at e2;rwa[ac e2,b fu hb];try clear e2;subst fu
  have Y:bj (d.take (i+1))=bj (d.take i)++rs:=by rw[List.take_add_one,bT zi,t9,kg];simp [bj]
  simp only[fF,cD,bY,aO,aN,ie,eJ,fG,zo,kb,af,aq,ak,am,aj,iF,Hu];refine eO hb (en fH (λ j o p y=>y=g/\(∃A,p=[none,some (.ref b),some (.int (i:Int)),A])/\o=(rs.take j).map du) (λ i o p g Pc=>by rwa[aK Pc,e _,-Pc];exact aU e hb) (λ j o v p y H O=>?_) _ 0 [] _ g (by exact Nat.zero_add _) (Nat.zero_le _) (bN rfl ⟨A,rfl⟩ rfl) λ x y O=>?_)
  ·rwa[cA O,fZ gm iJ];try clear O;subst fZ;rwa[aW gm,A iU];try clear gm;subst iU;subst iJ
   rw[cg]at H;generalize B:rs[j]?= TH;induction TH with
   |none=>rw[B]at H;exact aD (H)
   |some r=>
    rw[B]at H;obtain rfl:=an (H);simp only[fF,bt,aO,aN,ie,eJ,fG,jm,af,aq,ak,am,aj,jO];refine(bN trivial ⟨_,rfl⟩ ?_)
    erw[List.take_add_one,B];simp
  ·rwa[cA O,jl kt w];try clear O;subst jl;rwa[aW kt,A Vj,-kt]
   rw[List.nil_append,bo,List.take_length]at w
   erw[w,Vj]
   exact(bN rfl (Ah _ _ _ rfl) (by erw[Y,List.map_append];rfl))
 ·rwa[cA t,mn _ w];try clear t;subst mn
  rw[List.nil_append,dT,List.take_length]at w
  erw[m3,w]
  rwa[bk (by rw[bo];exact Fu KW),ay f1 k1 l1];simp only[aX,aO,aN,aa,ae,az,fJ,kb,af,aq,ak,am,aj,iF,iH];refine fB (eO f1 ?_);refine en fH (λ i o p y=>y=ay/\(∃G,p=[none,G])/\o=(((bj d).take i).filter gn).map du) (λ i o p g Pb=>by rwa[aK Pb,e _,-Pb];exact aU e f1) (λ i o v p y u t=>?_) _ 0 [] _ ay (by exact Nat.zero_add _) (Nat.zero_le _) (bN rfl ⟨none,rfl⟩ rfl) λ x y t=>?_
  ·rwa[cA t,nR oZ ud];try clear t;subst nR;rwa[aW oZ,G xN];try clear oZ;subst xN;subst ud
   rw[cg]at u;generalize B:(bj d)[i]?= TG;induction TG with
   |none=>rw[B]at u;exact aD (u)
   |some r=>
    rw[B]at u;obtain rfl:=an (u);have Y:((bj d).take (i+1)).filter gn=((bj d).take i).filter gn++[r].filter gn:=by rw[List.take_add_one,B,List.filter_append];rfl
    unfold du;simp only[fF,bt,aO,aN,ie,rQ,aI,aV,af,aq,ak,am,aj,bU,ag,bp,cN,eP,aS,ku];by_cases q:r.1<=r.2
    ·simp only[bq q,aQ,fG,jm,af,aq,ak,am,aj,jO];refine(bN trivial ⟨_,rfl⟩ ?_)
     erw[Y];simp [gn,q,du]
    ·simp only[bA q,aJ,yI];refine(bN trivial ⟨_,rfl⟩ ?_)
     erw[Y];simp [gn,q]
  ·rwa[cA t,xM _ w];try clear t;subst xM
   rw[List.nil_append,bo,List.take_length]at w
   erw[m3,w]
   have Ao:((bj d).filter gn).length<=100000:=by have:=List.length_filter_le gn (bj d);exact iA (.i W0 (.c 100000)) [.i W1 (.c 100000),.i W0 W1] (.l [1,1,1]) rfl KW this
   rwa[bk (by rw[bo];exact Fu Ao),aH f2 k2 l2]
   erw[hR]
   unfold Dn;simp only[List.drop_succ_cons,List.drop_zero,aX,aO,aN,aa,ae,bv,aI,af,aq,ak,am,aj,bU,bx,ai,b8];rwa[bk (by simp),U f3 J l3];have g1:∀ {Q E},wp (bz .Eq (.ref y.length) (.ref aH.length)) Q E U=Q (.bool (decide (((bj d).filter gn).map du=[]))) U:=iM (sJ (J.bM f2) f3);have uE:=(k1.trans k2).trans J;have hN:=xl (bj d);simp only[aS,g1];generalize L:(bj d).filter gn=TF;induction TF with
   |nil=>
    obtain ⟨r,rr,hr⟩:∃r rr,bj d=r::rr:=by cases z:bj d with|nil=>exact absurd z iI|cons r rr=>exact(im r rr rfl)
    have g2:∀ {Q E},wp (cK (.ref g.length) (.int 0)) Q E U=Q (du r) U:=bL (j:=0) (J.bM (k2.bM f1)) (by exact aU hr rfl);simp only[List.map_nil,decide_true,aQ,c7,ae,aT,aV,af,aq,ak,am,aj,bU,ag,bp,g2,br,aF,aG];have:=h U uE;rw[hN]at this;unfold tG at this;rw[L,hr]at this;exact this
   |cons r l=>
    rw[L]at f2;have d0:decide ((r::l).map du=[])=false:=rfl;simp only[d0,aJ,c7,aM,aa,ae,aT,bX,ah,ax,ag,aL,fJ,kb,af,aq,ak,am,aj,iF,iH]
    skip
    rwa[wg (f:=(·.1)) (J.bM f2) (λ r=>cN) (by exact fM L (Fu Ao)),bK f4 k4 l4];simp only[aA,ai,ao,aB,aZ]
    erw[GU (by rw[f4];rfl)]
    simp only[aA,ah,ax,ag,aL,fJ,kb,af,aq,ak,am,aj,iF,iH]
    skip
    rwa[wg (f:=(·.2)) (k4.bM (J.bM f2)) (λ r=>eP) (by exact fM L (Fu Ao)),cI f5 k5 l5];simp only[aA,ai,ao,aB,aZ]
    erw[GV (by rw[f5];rfl)]
    simp only[aA,ai,ao,cJ,br,aF,aG];have:=h cI ((uE.trans k4).trans k5);rw[hN]at this;unfold tG at this;rw[L]at this;exact this
end
section
variable{n:Nat}{E:Str->St->Prop}{s:St}
theorem c90(ht:qQ s a m)(hw:WF m)(uc:m.length<=100)(h:∀A,Kp [] s A->Q (hG (cZ m given d)) A):pc (n+40) (.fn 90) [.ref a,hG given,.int d] Q E s:=by
 have zc:=ht;rwa[bR ht,vs J U hv,-ht];obtain ⟨N,hN⟩:∃N,N=m.length:=⟨_,rfl⟩;have gl:∀ {A},Kp [] s A->∀ {Q E},wp (iu .len [.ref a]) Q E A=Q (.int (N:Int)) A:=by intro A k Q E;erw[len_list (k.bM J),U,hN];rfl
 refine(ba (ρ:=[some (.ref a),some (hG given),some (.int d),none,none,none]) (by decide) rfl rfl).mpr ?_;simp only[Pz,ae,bv,dU,aI,af,ak,am,aj,bU,bx,ai,b8];rwa[bk (by simp),u f1 B l1];obtain ⟨e,he⟩:∃e,e= !decide (vs=[]):=⟨_,rfl⟩;have g0:∀ {Q E},wp (bz .NotEq (.ref a) (.ref s.length)) Q E u=Q (.bool e) u:=by exact aU he (rJ (sJ (B.bM J) f1))
 simp only[aS,g0];have w:∀ (f:St),Kp [] s f->cZ m given d=some (eB given d,eB given d+m.length - 1)->∀ {x3:Option V},
   px (n+40) [.a (.one 3) (.ite (.c .Is (.v 1) (.k .none)) (.v 2) (.i (.v 1) (.k (.int 0)))),.ret (some (.tup [(.v 3),(.b .Sub (.b .Add (.v 3) (.call (.k (.bi .len)) [(.v 0)])) (.k (.int 1)))]))] [some (.ref a),some (hG given),some (.int d),x3,none,none] (ko Q) E f:=by
  intro f y p x3;have O:=h f y;rw[p,← hN]at O
  induction given with
  |none=>have fC:∀ {Q E},wp (bz .Is .none .none) Q E f=Q (.bool true) f:=gt rfl;unfold hG at O ⊢;simp only[ae,az,dB,aI,af,aq,ak,am,aj,bU,ag,aS,fC,aQ,gy,aX,aO,aN,aa,aT,bX,ah,aA,bG,ax,aL,ai,ao,aB,aZ,gl y,cz,dp,gu,cJ,br,aF,aG];exact O
  |some g=>have fC:∀ {Q E},wp (bz .Is (.tup [.int g.1,.int g.2]) .none) Q E f=Q (.bool false) f:=gt rfl;unfold hG du at O ⊢;simp only[ae,az,dB,aI,af,aq,ak,am,aj,bU,ag,aS,fC,aJ,gy,aV,bp,cN,aX,aO,aN,aa,aT,bX,ah,aA,bG,ax,aL,ai,ao,aB,aZ,gl y,cz,dp,gu,cJ,br,aF,aG];exact O
 induction m with
 |nil=>
  have zb:=List.eq_nil_of_length_eq_zero U;have V5:e=false:=by erw[he,zb];rfl
  subst V5;simp only[aJ,tI,c7,aM,aa,ae,bv,dU,aI,af,ak,am,aj,bU,bx,ai,b8];rwa[bk (by simp),f f2 y l2];have g1:∀ {Q E},wp (bz .NotEq (.ref a) (.ref u.length)) Q E f=Q (.bool false) f:=rJ (r:=true) (by erw[sJ (y.bM (B.bM J)) f2,zb];rfl);have:=w f (B.trans y) rfl (x3:=none);simp only[aS,g1,aJ,tI,c7,aM,aa,ae,az,dB,aI,af,aq,ak,am,aj,bU,ag];simp only[az,aT,dB,aI,af,ag,aV,bX,ah,ai,bG,ax,aa,aF,ae,aM,ak,aq,am,sU,Qb,if_true,dp,gu,aG,aO,aN]at this;exact this
 |cons c m=>
  have OL:=hN;have Yj:vs≠ []:=by intro z;rw[z]at U;simp at U
  have vT:∃x,(c::m)[m.length]?= some x/\(c::m).getLast? =some x:=by
   refine(aw ((c::m)[m.length]'(by simp)) (bT _) ?_)
   erw[List.getLast?_eq_getElem?];simp
  rwa[ac vT,x NK CT,-vT];rwa[ac (hv _ _ NK),v e1 e2];have Gy:oj u x v:=by
   induction x with
   |pos=>exact e2
   |gc=>exact e2
   |eG l=>rwa[ac e2,b bw p];try clear e2;subst bw;exact(aw b rfl (B.bM p))
  have g1:∀ {Q E},wp (cK (.ref a) (.int (-1))) Q E u=Q (.tup [v,.int (m.length:Int)]) u:=CQ (B.bM J) (by unfold kh;erw[if_neg (by decide),U];refine fM hN ?_;erw[if_pos (iA (.l (.c 0) (.a (.g (.c 1)) (.t W0))) [.k W0 (.a W1 (.c 1))] (.l [1,0,1]) rfl OL)];congr 1;exact jI (.k W0 W1) [.k W2 (.a W1 (.c 1)),.o (.e (.l (.c 0) (.a (.g (.c 1)) (.t W2))) (.q (.t W0) (.a (.g (.c 1)) (.t W2)))) (.e (.l (.a (.g (.c 1)) (.t W2)) (.c 0)) (.k W0 (.c 0)))] (.s 0 (.s 3 (.l [0,0,1,1,0,1]) (.l [1,0,0,1,0,1])) (.s 3 (.l [0,1,0,1,1]) (.l [0,1,0,1]))) rfl OL (Mine.L.bO _)) e1;have g2:∀ {Q E},wp (bz .Eq v (.str "others")) Q E u=Q (.bool (decide (x=.gc))) u:=iM (Gx Gy);have V5:e=true:=by erw[he,bA Yj];rfl
  subst V5;simp only[aQ,gy,aI,aV,af,ak,am,aj,bU,nV,ag,su,sg,bp,g1,cN,aS,g2,cW];by_cases Y:x=.gc
  ·simp only[bq Y,aQ,c7,ae,aT,af,aq,ak,am,aj,br,aF,aG];have p:cZ (c::m) given d=given:=by unfold cZ;erw[if_pos (by rw[CT,Y])];rfl
   have:=h u B;rw[p]at this;exact this
  ·simp only[bA Y,aJ,c7,aM,aa,ae,bv,dU,aI,af,ak,am,aj,bU,bx,ai,b8];have Js:(c::m).getLast? ≠some .gc:=by exact aU CT (λ z=>Y (an z))
   rwa[ac (hv 0 c rfl),v0 Go R2];rwa[bk (by simp),f f2 y l2];have H:=B.trans y;have g3:∀ {Q E},wp (bz .NotEq (.ref a) (.ref u.length)) Q E f=Q (.bool true) f:=rJ (r:=false) (by erw[sJ (H.bM J) f2,bA Yj];rfl);have g4:∀ {Q E},wp (cK (.ref a) (.int 0)) Q E f=Q (.tup [v0,.int 0]) f:=bL (j:=0) (H.bM J) Go;have WE:oj f c v0:=by
    induction c with
    |pos=>exact R2
    |gc=>exact R2
    |eG l=>rwa[ac R2,b b7 p];try clear R2;subst b7;exact(aw b rfl (H.bM p))
   have g5:∀ {Q E},wp (bz .IsNot v0 .none) Q E f=Q (.bool (!decide (c=.pos))) f:=fy (y5 WE);simp only[aS,g3,aQ,gy,aI,aV,af,ak,am,aj,bU,ag,bp,g4,cN,g5,cW];rcases hw.last Js with hp|hr
   ·have G:=hp c (.head _);subst G;have p:cZ (.pos::m) given d=some (eB given d,eB given d+(Ch.pos::m).length - 1):=by unfold cZ;erw[if_neg Js];rfl
    have d1:(!decide (Ch.pos=Ch.pos))=false:=rfl;have:=w f H p (x3:=none);simp only[decide_true,Bool.not_true,aJ,c7,aM,aa,ae,az,dB,aI,af,aq,ak,am,aj,bU,ag,aS];simp only[az,aT,dB,aI,af,ag,aV,bX,ah,ai,bG,ax,aa,aF,ae,aM,ak,aq,am,sU,Qb,if_true,dp,gu,aG,aO,aN]at this;exact this
   ·rwa[bR (hr c (.head _)),rs G t9 _];have p:cZ (c::m) given d=jv (bj (c::m)):=by unfold cZ;erw[if_neg Js,G];rfl
    have d1:(!decide (c=Ch.pos))=true:=by erw[G];simp
    have NM:=zc.kp H (λ _ _ _ z=>bQ (z));simp only[d1,aQ,c7,ae,aT,ax,ag,aL,ah,af,ak,am,aj,aA,ai,ao,aB];refine c89 NM (λ c G=>by exact dR (hr c G) λ rs e _ e3 _=>(aw rs e e3)) uc ?_ λ bf k3=>?_
    ·erw[G]
     intro z;have:rs=[]:=(List.append_eq_nil_iff.mp z).1;exact t9 this
    ·have:=h bf (H.trans k3);rw[p]at this;simp only[br,aF,aG];exact this
end
noncomputable def xk(a:List Int):Nat:=a.countP λ x=>decide (x<0)
theorem vp:∀ {fs:List Int} {k:Nat} {x v:Int},fs[k]?= some x->x<0->0<=v->xk (fs.set k v)+1=xk fs
 | [],k,x,v,h,_,_=>aD (h)
 |y::fs,0,x,v,h,b,d=>by
  obtain rfl:=an (h);have: ¬ v<0:=by exact MB d
  simp [xk,b,this]
 |y::fs,k+1,x,v,h,b,d=>by have:=vp (fs:=fs) (k:=k) (v:=v) h b d;unfold xk at this ⊢;simp only[aO,List.countP_cons];exact jI (.k (.a (.a W0 W1) (.c 1)) (.a W2 W1)) [.k (.a W0 (.c 1)) W2] (.s 0 (.l [1,0,1]) (.l [1,1])) rfl this
structure DR(b:Rg)(es:List (Int×V))(fs:List Int):Prop where
 get:∀ (k:Nat) (x:Int),fs[k]?= some x->es.find? (·.1==b.1+(k:Int))=if x<0 then none else some (b.1+(k:Int),.int x)
 len:es.length+xk fs=fs.length
theorem wB{a:List (Int×V)}{i:Int}:a.any (·.1==i)=(a.find? (·.1==i)).isSome:=by
 induction a with
 |nil=>rfl
 |cons e a b=>
  erw[List.any_cons,List.find?_cons,b]
  cases e.1==i<;> rfl
theorem DR.add{b:Rg}{w:List (Int×V)}{d:List Int}(h:DR b w d){i:Int}{p:Nat}{O:List Int}(U:d.length=jH b)(u:cj b p d i=some O):w.any (·.1==i)=false/\DR b (w++[(i,.int (p:Int))]) O/\w.length<d.length:=by
 unfold cj at u
 split at u
 ·rename_i H;rwa[cA H,J Y m,-H];obtain rfl:=an (u);have G:(i - b.1).toNat<d.length:=by erw[U];unfold jH;exact Ci (.j W0 W1) [.l Y0 Y1,.l Y1 Y2,.o (.e (.l (.c 0) (.s Y1 Y0)) (.q (.t W0) (.s Y1 Y0))) (.e (.l (.s Y1 Y0) (.c 0)) (.k W0 (.c 0))),.o (.e (.l (.c 0) (.a (.s Y2 Y0) (.c 1))) (.q (.t W1) (.a (.s Y2 Y0) (.c 1)))) (.e (.l (.a (.s Y2 Y0) (.c 1)) (.c 0)) (.k W1 (.c 0)))] (.s 3 (.s 5 (.l [0,0,1,0,1,0,1,0,1]) (.l [1,0,0,1,0,0,0,0,1])) (.s 5 (.l [0,0,1,0,1,0,1,1,1]) (.l [1,0,0,0,0,0,0,1,1]))) rfl J Y (Mine.L.bO _) (Mine.L.bO _)
  have r:d[(i - b.1).toNat]?= some d[(i - b.1).toNat]:=bT G;generalize d[(i - b.1).toNat]=x at r;rw[r]at m;have m:x<0:=m;have A:b.1+(((i - b.1).toNat:Nat):Int)=i:=by exact M7 J (Mine.L.bO _)
  have g:=h.get _ _ r;rw[if_pos m,A]at g;have B:=vp (v:=(p:Int)) r m (B8);have Q:=h.len;refine(bN (by erw[wB,g];rfl) ⟨λ k y f=>?_,?_⟩ (wO (.j W0 W1) [.k (.a W2 (.c 1)) W3,.k (.a W0 W3) W1] (.l [1,1,0,1]) rfl B Q))
  ·erw[List.find?_append]
   by_cases q:k=(i - b.1).toNat
   ·subst q;rw[List.getElem?_set_self G]at f;obtain rfl:=an (f)
    erw[A,g,if_neg (MA)]
    simp
   ·rw[List.getElem?_set_ne (λ z=>q z.symm)]at f;have VL:=(cw.mp f).1;have e2:(List.find? (λ e:Int×V=>e.1==b.1+(k:Int)) [(i,V.int (p:Int))])=none:=by
     erw[List.find?_cons]
     have:(i==b.1+(k:Int))=false:=by simp;exact vC (.n (.q Y0 (.a Y1 (.t W0)))) [.q (.a Y1 (.t W1)) Y0,.n (.k W0 W1)] (.s 0 (.s 3 (.l [1,1,0,1]) (.l [1,0,1,0,1])) (.s 3 (.l [1,1,0,1]) (.l [1,0,1,0,1]))) rfl A q
     exact aU this rfl
    erw[e2,Option.or_none]
    exact h.get k y f
  ·erw[List.length_append,List.length_set]
   simp only[List.length_singleton];exact wO (.k (.a (.a W0 (.c 1)) W1) W2) [.k (.a W1 (.c 1)) W3,.k (.a W0 W3) W2] (.s 0 (.l [1,0,1,0,1]) (.l [1,1,0,1])) rfl B Q
 ·exact aD (u)
theorem DR.bad{b:Rg}{u:List (Int×V)}{d:List Int}(h:DR b u d){i:Int}{p:Nat}(w:d.length=jH b)(r:cj b p d i=none)(f:b.1<=i/\i<=b.2):u.any (·.1==i)=true:=by
 unfold cj at r
 split at r
 ·exact dk (r)
 ·rename_i y;have v:(i - b.1).toNat<d.length:=by erw[w];unfold jH;exact Ci (.j W0 W1) [.e (.l Y0 Y1) (.l Y1 Y2),.o (.e (.l (.c 0) (.s Y1 Y0)) (.q (.t W0) (.s Y1 Y0))) (.e (.l (.s Y1 Y0) (.c 0)) (.k W0 (.c 0))),.o (.e (.l (.c 0) (.a (.s Y2 Y0) (.c 1))) (.q (.t W1) (.a (.s Y2 Y0) (.c 1)))) (.e (.l (.a (.s Y2 Y0) (.c 1)) (.c 0)) (.k W1 (.c 0)))] (.s 2 (.s 4 (.l [0,0,1,0,1,0,1,0,1]) (.l [1,0,0,1,0,0,0,0,1])) (.s 4 (.l [0,0,1,0,1,0,1,1,1]) (.l [1,0,0,0,0,0,0,1,1]))) rfl f (Mine.L.bO _) (Mine.L.bO _)
  have m:=bT v;generalize d[(i - b.1).toNat]=x at m;have A:b.1+(((i - b.1).toNat:Nat):Int)=i:=by exact Nh (.q (.a Y0 (.t W0)) Y1) [.e (.l Y0 Y1) (.l Y1 Y2),.o (.e (.l (.c 0) (.s Y1 Y0)) (.q (.t W0) (.s Y1 Y0))) (.e (.l (.s Y1 Y0) (.c 0)) (.k W0 (.c 0)))] (.s 0 (.s 3 (.l [0,0,1,1]) (.l [1,0,0,1])) (.s 3 (.l [0,1,0,1]) (.l [0,1,0,1,1]))) rfl f (Mine.L.bO _)
  have g:=h.get _ _ m;have: ¬ x<0:=λ z=>y (bN f.1 f.2 (by exact aU m z));rw[if_neg this,A]at g
  erw[wB,g];rfl
noncomputable def gZ(r:Int):V:=if r<0 then .none else .int r
section
variable{n:Nat}{E:Str->St->Prop}{s:St}
theorem Me(h:s[d]?= some (.dM a)):wp (m0 (.ref d) 2 [.int k,b]) Q E s=Q (match a.find? (·.1==k)with|some e=>e.2|none=>b) s:=by
 refine bJ ?_;show gO s[d]? _ s=_
 erw[h]
 show(match a.find? (λ e:Int×V=>e.1==k)with|some e=>iS e.2|none=>iS b) s=_
 cases a.find? (λ e:Int×V=>e.1==k)<;> rfl
theorem in_dict(h:s[d]?= some (.dM a)):wp (bz .In (.int k) (.ref d)) Q E s=Q (.bool (a.any (·.1==k))) s:=bJ (by show gO s[d]? _ s=_;exact aU h rfl)
theorem Fk(h:s[d]?= some (.list a))(b:a.all ki=true):wp (bz .In .none (.ref d)) Q E s=Q (.bool (a.any (λ x=>jL x .none))) s:=bJ (by show gO s[d]? _ s=_;erw[h];show vk (md .none a) s=_;erw[show md .none a=some (a.any (λ x=>jL x .none))from(by unfold md;rw[b];rfl)];rfl)
theorem J3(J:(m[1]?).getD none=some (du b))(h2:(m[2]?).getD none=some (.ref d))(h3:(m[3]?).getD none=some (gZ f))(H:s[d]?= some (.dM es))(hr:DR b es p)(G:p.length=jH b)(B:dZ b)
  (h:∀j,j[s.length]?= some (.list (p.map λ x=>if x<0 then gZ f else .int x))->Kp [] s j->j.length=s.length+1->Q (.ref s.length) j):
  pw ((SS (n+20)).ev m (.comp [none,none,some 2,some 3] (.fY (.v 2) 2 [(.v 1),(.v 3)]) [((.one 1),(.inr ((some (.i (.v 1) (.k (.int 0)))),(.b .Add (.i (.v 1) (.k (.int 1))) (.k (.int 1))))),[])])) Q E s:=by
 rwa[aK B,Y b7];try clear B;rwa[aK Y,b1 b2];try clear Y;rwa[aK b7,b3 b4,-b7]
 erw[fJ]
 have hc:lS m [none,none,some 2,some 3]=[none,none,some (.ref d),some (gZ f)]:=by
  show [none,none,(m[2]?).getD none,(m[3]?).getD none]=_
  erw[h2,h3];rfl
 erw[hc]
 unfold du at J;simp only[Hf,pE,aV,af,J,aj,bU,ag,bp,cN,bG,eP,cz,dp,gf,cr (show -1000000<=b.1 by exact IR b1) (IQ b2),cr (show -1000000<=b.2+1 by exact IP b3) (IN b4),cP,Cz,iH];refine fB ?_
 erw[sK]
 have O:(di b.1 (b.2+1)).length=p.length:=by rw[bS,G];unfold jH;congr 1;exact oA (.q (.s (.a Y0 (.c 1)) Y1) (.a (.s Y0 Y1) (.c 1))) [] (.s 0 (.l [1]) (.l [1])) rfl
 refine nY fH (xs:=di b.1 (b.2+1)) (λ i o m j=>j=s/\(∃A,m=[none,A,some (.ref d),some (gZ f)])/\o=(p.take i).map λ x=>if x<0 then gZ f else .int x)
  (λ i o x m j r u=>?_) _ 0 [] _ s (Nat.zero_add _) (bN rfl ⟨none,rfl⟩ rfl) λ x j u=>?_
 ·rwa[cA u,cH U eK];try clear u;subst cH;rwa[aW U,A fO];try clear U;subst fO;subst eK
  rwa[aK (cS r),Jh hi,Jh];have m7:i<p.length:=by exact fM O ((cw.mp r).1)
  have w:=bT m7;generalize p[i]=y at w;have g1:∀ {Q E},wp (ge (.ref d) 2) Q E j=Q () j:=IY H;have g2:∀ {z Q E},wp (m0 (.ref d) 2 [.int (b.1+(i:Int)),z]) Q E j=Q (if y<0 then z else .int y) j:=by
   intro z Q E
   erw[Me H,hr.get i y w]
   by_cases q:y<0
   ·erw[if_pos q,if_pos q];rfl
   ·erw[if_neg q,if_neg q];rfl
  simp only[fF,bt,aO,aN,ie,eJ,fG,jm,eV,af,aq,ak,am,aj,eU,g1,eT,ah,aA,ai,ao,gh,g2,jO];refine(bN trivial ⟨_,rfl⟩ ?_)
  erw[List.take_add_one,w];simp
 ·rwa[cA u,gU _ r];try clear u;subst gU
  rw[List.nil_append,O,List.take_length]at r
  erw[m3,r]
  exact bk (by rw[bo,G];unfold jH;exact yE (.i W0 (.c 1000000)) [.l (.g (.c 1000)) Y0,.l Y1 (.c 1000),.o (.e (.l (.c 0) (.a (.s Y1 Y0) (.c 1))) (.q (.t W0) (.a (.s Y1 Y0) (.c 1)))) (.e (.l (.a (.s Y1 Y0) (.c 1)) (.c 0)) (.k W0 (.c 0)))] (.s 3 (.l [0,1,0,1,1,1]) (.l [0,1,0,1])) rfl b1 b4 (Mine.L.bO _)) h
end
theorem xB(h:∀r∈l,dZ r):(dK l).length<=2001 * l.length:=by
 induction l with
 |nil=>simp [dK]
 |cons r l c=>
  have e:=c λ r d=>h r (.tail _ d);rwa[aK (h r (.head _)),a b];rwa[aK a,_ _];try clear a;rwa[aK b,_ _,-b]
  have:dK (r::l)=di r.1 (r.2+1)++dK l:=rfl;rw[this,List.length_append,bS,List.length_cons];omega
section
variable{n:Nat}{E:Str->St->Prop}{s:St}
noncomputable def lR(a:Nat)(b:Rg)(d:Nat)(j i h g f e c l k:Option V):Env:=[some (.ref a),some (du b),some (.ref d),j,i,h,g,f,e,c,l,k,none,none]
noncomputable def pi:S:=.ek (.one 10) (.inl (.v 7)) [.ez (.q (.c .In (.v 10) (.v 2)) (.not (.ut (.i (.v 1) (.k (.int 0))) .LtE (.v 10) .LtE (.i (.v 1) (.k (.int 1)))))) [.ret (some (.k .none))] [],.dc (.v 2) (.v 10) (.v 6)]
theorem wq
  (hd:s[d]?= some (.dM es)) (U:s[A]?= some (.list (wanted.map .int))) (hr:DR b es t) (hl:t.length=jH b) (hn:jH b<=24)
  (h:∀m g f r,cB b p wanted t=some g->DR b m g->f[d]?= some (.dM m)->Kp [d] s f->f.length=s.length->Q (.next,lR a b d x3 x4 x5 (some (.int (p:Int))) (some (.ref A)) x8 x9 r wW) f)
  (Y:∀f u,cB b p wanted t=none->Kp [d] s f->Q (.ret .none,u) f):
  pw ((SS (n+20)).ex (lR a b d x3 x4 x5 (some (.int (p:Int))) (some (.ref A)) x8 x9 r wW) pi) Q E s:=by
 have Vk:=Hi U hd (λ z=>bZ vm (z) rfl);unfold pi
 skip
 refine eQ ?_;unfold lR;simp only[af,aq,ak,am,aj,gL];refine(c9 A _ rfl U ?_);refine eh (λ j u f=>∃r m g,u=[some (.ref a),some (du b),some (.ref d),x3,x4,x5,some (.int (p:Int)),some (.ref A),x8,x9,r,wW,none,none]/\cB b p (wanted.take j) t=some g/\DR b m g/\g.length=jH b/\f[d]?= some (.dM m)/\Kp [d] s f/\f.length=s.length)
  (λ j u f Pa=>by rwa[jU Pa,_ _ _ _ _ _ _ _ k _,-Pa];exact k.at U (by exact jh (Vk))) (λ j v u f x y A8 ma=>?_) (λ u f y=>?_) _ 0 _ s (by exact Nat.zero_add _) (Nat.zero_le _) (kK r es t rfl rfl hr hl hd .refl rfl)
 ·rwa[jU y,r m g cH J G w B k O];try clear y;subst cH
  rw[cg]at x;generalize H:wanted[j]?= TD;induction TD with
  |none=>rw[H]at x;exact aD (x)
  |some i=>
   rw[H]at x;obtain rfl:=an (x);have tk:cB b p (wanted.take (j+1)) t=cj b p g i:=by
    rw[List.take_add_one,H,dE,J];show(cj b p g i).bind (cB b p [])=_
    cases cj b p g i<;> rfl
   have fail:cj b p g i=none->cB b p wanted t=none:=λ hh=>by have xI:=(cw.mp H).1;have e:wanted=wanted.take (j+1)++wanted.drop (j+1):=(List.take_append_drop _ _).symm;rw[e,dE,tk,hh];rfl
   have g1:∀ {Q E},wp (bz .In (.int i) (.ref d)) Q E f=Q (.bool (m.any (·.1==i))) f:=in_dict B;generalize o:cj b p g i=TC;induction TC with
   |none=>
    have C0:=fail o;unfold du;simp only[bt,aO,aN,cQ,ae,bv,eD,aI,af,aq,ak,am,aj,bU,aS,g1];by_cases q:m.any (·.1==i)=true
    ·erw[q]
     simp only[aQ,tI,c7,ae,aT,ag,br,aF,hV];exact Y f _ C0 k
    ·have q':=eq_false_of_ne_true q
     erw[q']
     simp only[aJ,gy,qw,ug,aV,af,aq,ak,am,aj,bU,ag,bp,cN,xt,CA,ku];have VA: ¬ (b.1<=i/\i<=b.2):=λ z=>q (G.bad w o z);by_cases L:b.1<=i
     ·have q2: ¬ i<=b.2:=λ z=>VA ⟨L,z⟩;simp only[bq L,aQ,gy,aV,af,aq,ak,am,aj,bU,ag,bp,eP,aS,ku,bA q2,k_not,Bool.not_false,cW,c7,ae,aT,br,aF,hV];exact Y f _ C0 k
     ·simp only[bA L,aJ,tI,k_not,Bool.not_false,cW,aQ,c7,ae,aT,ag,br,aF,hV];exact Y f _ C0 k
   |some hO=>
    rwa[cA (G.add w o),y1 y2 y3];have wS:b.1<=i/\i<=b.2:=by
     unfold cj at o
     split at o
     ·rename_i z;exact⟨z.1,z.2.1⟩
     ·exact aD (o)
    unfold du;simp only[bt,aO,aN,cQ,ae,bv,eD,aI,af,aq,ak,am,aj,bU,aS,g1,y1,aJ,gy,qw,ug,aV,ag,bp,cN,xt,CA,ku,bq wS.1,aQ,eP,bq wS.2,k_not,Bool.not_true,cW,c7,aM,aa,fp,lu,ls,nO];rwa[HW B (jI (.j W0 (.c 1000)) [.i W1 (.c 24),.k W2 W1,.j W0 W2] (.l [1,1,1,0,1]) rfl hn w y3) y1,aH f2 k2 l2];simp only[aP,aa,aM,be];exact ma _ _ (kK _ _ hO rfl (by erw[tk,o];rfl) y2 (by erw[qL o,w];rfl) f2 (k.trans k2) (jI (.k W0 W1) [.k W2 W1,.k W0 W2] (.s 0 (.l [1,0,1,0,1]) (.l [1,1,0,1])) rfl O l2))
 ·rwa[jU y,r m g dy J G w B k O];try clear y;subst dy
  rw[bo,List.take_length]at J;exact h m g f r J G B k O
end
section
variable{n:Nat}{E:Str->St->Prop}{s:St}
theorem c91(ht:qQ s a u)(hw:WF u)(uc:u.length<=100)(hb:dZ b)(hn:jH b<=24)(vR:∀l,.eG l∈u->l.length<=100/\∀r∈l,dZ r)
  (h:∀row y a',mP u b=some row->y[a']?= some (.list (row.map .int))->Kp [] s y->s.length<=a'->Q (.ref a') y) (h':∀y,mP u b=none->Kp [] s y->Q .none y):
  pc (n+60) (.fn 91) [.ref a,du b] Q E s:=by
 rwa[aK (id hb),bw b7];rwa[aK bw,b1 b2];try clear bw;rwa[aK b7,b3 b4,-b7]
 rwa[bR ht,vs ha dT hv,-ht];have alt:(∀c∈u,c=.pos∨c=.gc)∨(∀c∈u,c≠ .pos):=by
  rwa[dm hw.at_,l o cH ho hl _];subst cH;have RF:∀c∈o,c=.gc:=by
   rcases ho with rfl|rfl
   ·exact λ c h=>bQ (h)
   ·exact λ c h=>by simpa using h
  rcases hl with hp|J
  ·exact .inl λ c w=>by
    rcases List.mem_append.mp w with w|w
    ·exact .inl (hp c w)
    ·exact .inr (RF c w)
  ·exact .inr λ c w=>by
    rcases List.mem_append.mp w with w|w
    ·exact ac (J c w) λ rs e _=>aU e (λ z=>bZ Ch.ctorIdx (z) rfl)
    ·exact aU (RF c w) (λ z=>bZ Ch.ctorIdx (z) rfl)
 refine(ba (ρ:=[some (.ref a),some (du b),none,none,none,none,none,none,none,none,none,none,none,none]) (by decide) rfl rfl).mpr ?_;rw[show Py.body=[.a (.one 2) .emptyDict,.a (.one 3) (.k .none),.a (.one 4) (.i (.v 1) (.k (.int 0))),
  .ek (.m [5,6]) (.inl (.v 0)) [.ez (.c .Eq (.v 5) (.k (.str "others"))) [.a (.one 3) (.v 6),.cont] [],.a (.one 7) (.ite (.c .Is (.v 5) (.k .none)) (.l [(.v 4)]) (.l [])),.a (.one 4) (.b .Add (.v 4) (.k (.int 1))),.ek (.m [8,9]) (.inl (.ite (.c .Is (.v 5) (.k .none)) (.l []) (.v 5))) [.a (.one 7) (.b .Add (.v 7) (.pZ (.v 8) (.b .Add (.v 9) (.k (.int 1)))))],pi],
  .a (.one 11) (.comp [none,none,some 2,some 3] (.fY (.v 2) 2 [(.v 1),(.v 3)]) [((.one 1),(.inr ((some (.i (.v 1) (.k (.int 0)))),(.b .Add (.i (.v 1) (.k (.int 1))) (.k (.int 1))))),[])]),
  .ret (some (.ite (.c .In (.k .none) (.v 11)) (.k .none) (.v 11)))]from rfl]
 obtain ⟨R,hR⟩:∃R:List S,R=[.a (.one 11) (.comp [none,none,some 2,some 3] (.fY (.v 2) 2 [(.v 1),(.v 3)]) [((.one 1),(.inr ((some (.i (.v 1) (.k (.int 0)))),(.b .Add (.i (.v 1) (.k (.int 1))) (.k (.int 1))))),[])]),
  .ret (some (.ite (.c .In (.k .none) (.v 11)) (.k .none) (.v 11)))]:=⟨_,rfl⟩
 refine fM hR ?_;obtain ⟨CS,KX⟩:∃CS:S,CS=pi:=⟨_,rfl⟩;refine fM KX ?_;have gz:∀ {Q E} {s:St},wp (cK (du b) (.int 0)) Q E s=Q (.int b.1) s:=cN;simp only[ae,az,dh];rwa[eA,ay f1 k1 l1];simp only[aX,aO,aN,aa,ae,az,ag,aV,af,aq,ak,am,aj,bU,bp,gz]
 skip
 refine eQ ?_;simp only[af,ak,am,aj,gL];refine(c9 a vs rfl (k1.bM ha) ?_);have Xk:=bD ha;refine eh (λ i A y=>∃x5 x6 x7 Y U fQ st p es,A=lR a b s.length (some (gZ st.rest)) (some (.int p)) x5 x6 x7 Y U fQ none/\eE b (u.take i) 0 ⟨List.replicate (jH b) (-1),b.1,-1⟩=some st/\((∀c∈u,c=.pos∨c=.gc)->p=st.index)/\y[s.length]?= some (.dM es)/\DR b es st.fs/\Kp [s.length] ay y)
  (λ i A y O9=>by rwa[xS O9,_ _ _ _ _ _ _ _ _ _ _ _ _ _ k,-O9];exact k.at (k1.bM ha) (by simp;exact AW Xk)) (λ i v A y sB hI A8 ma=>?_) (λ A y hI=>?_) _ 0 _ ay (by exact Nat.zero_add _) (Nat.zero_le _) (tV none none none none none none _ _ ([]) rfl rfl (λ _=>rfl) f1 ⟨λ k x hk=>?_,?_⟩ .refl)
 ·rwa[xS hI,x5 x6 x7 Y U fQ st p es dy w hh hd J k];try clear hI;subst dy
  have zi:i<u.length:=by exact fM dT ((cw.mp sB).1)
  have vV:=bT zi;have oY:=List.getElem_mem zi;generalize u[i]=c at vV oY;rwa[ac (hv i c vV),v' e1 e2];rw[sB]at e1;obtain rfl:=an (e1);have Ao:st.fs.length=jH b:=by erw[gQ w];simp
  have Gy:oj y c v':=by
   induction c with
   |pos=>exact e2
   |gc=>exact e2
   |eG l=>rwa[ac e2,q eK hq];try clear e2;subst eK;exact(aw q rfl (k.at (k1.bM hq) (by have:=bD hq;simp;exact AW this)))
  have tk:eE b (u.take (i+1)) 0 ⟨List.replicate (jH b) (-1),b.1,-1⟩=fR b i st c:=by
   rw[List.take_add_one,vV,fD,w];show eE b [c] (0+(u.take i).length) st=_;rw[List.length_take,Nat.zero_add,Nat.min_eq_left (Nat.le_of_lt zi)];show(fR b i st c).bind (eE b [] (i+1))=_
   cases fR b i st c<;> rfl
  have fail:fR b i st c=none->mP u b=none:=λ hh=>by have e:u=u.take (i+1)++u.drop (i+1):=(List.take_append_drop _ _).symm;unfold mP;rw[e,fD,tk,hh];rfl
  have g2:∀ {Q E} {B:St},oj B c v'->wp (bz .Is v' .none) Q E B=Q (.bool (decide (c=.pos))) B:=λ hx=>gt (y5 hx);have g3:∀ {Q E},wp (bz .Eq v' (.str "others")) Q E y=Q (.bool (decide (c=.gc))) y:=iM (Gx Gy);have kl:=k.1;unfold lR;simp only[cD,bY,aO,aN,cQ,ae,bv,aI,af,aq,ak,am,aj,bU,ag,aS,g3]
  induction c with
  |gc=>
   cases Gy
   simp only[decide_true,aQ,c7,ae,az,af,aq,ak,am,aj,aX,aO,aN,aa,E0,zQ,AK];have er:gZ (i:Int)=.int (i:Int):=by unfold gZ;erw[if_neg (MA)];rfl
   exact fM er (ma _ _ (tV _ _ _ _ _ _ ⟨st.fs,st.index,i⟩ p es rfl (by exact aU tk rfl) hh hd J k))
  |pos=>
   cases Gy
   have hA:∀c∈u,c=.pos∨c=.gc:=by
    rcases alt with h|h
    ·exact h
    ·exact absurd rfl (h _ oY)
   have Yx:=hh hA;subst Yx;have fC:∀ {Q E} {s:St},wp (bz .Is .none .none) Q E s=Q (.bool true) s:=fun{Q E s}=>gt rfl;simp only[bA (show ¬Ch.pos=Ch.gc from nofun),aJ,c7,aM,aa,ae,az,dB,aI,af,aq,ak,am,aj,bU,ag,aS,fC,aQ,gy,bx,ah,aA,ai,ao,b8];rwa[bk (by simp),aH f2 k2 l2];simp only[aX,aO,aN,aa,ae,az,bG,af,aq,ak,am,aj,bU,ag,cz,dp]
   skip
   refine eQ ?_;simp only[dB,aI,af,aq,ak,am,aj,bU,ag,aS,fC,aQ,gy,bx,ai,b8];rwa[bk (by simp),bf f3 k3 l3];refine(c9 _ ([]) rfl f3 ?_);have FR:=k2.trans k3;refine kO (λ j A B=>B=bf/\j=0/\A=lR a b s.length (some (gZ st.rest)) (some (.int (st.index+1))) (some .none) (some (.int (i:Int))) (some (.ref y.length)) Y U fQ none) (λ j A B O8=>by rwa[aK O8,e _,-O8];exact aU e f3) (λ j v A B hv O=>by simp at hv) (λ A B O=>?_) _ 0 _ bf rfl (Nat.zero_le _) (bN rfl rfl rfl);rwa[cA O,fO _ gU];try clear O;subst fO;subst gU
   simp only[aa,ae]
   erw[KX]
   refine wq (wanted:=[st.index]) (FR.bM hd) (k3.bM f2) J Ao hn (λ kz ef bK zJ G oG sC k' l'=>?_) (λ bK A G k'=>?_)
   ·have Wa:cj b i st.fs st.index=some ef:=by
     have:cB b i [st.index] st.fs=(cj b i st.fs st.index).bind (cB b i []):=rfl;rw[this]at G;generalize z:cj b i st.fs st.index=TB;induction TB with
     |none=>rw[z]at G;exact aD (G)
     |some f=>rw[z]at G;exact G
    simp only[aa,aM,be];exact ma _ _ (tV _ _ _ _ _ _ ⟨ef,st.index+1,st.rest⟩ (st.index+1) kz rfl (by erw[tk];simp [fR,Wa]) (λ _=>rfl) sC oG ((k.trans FR.of).trans k'))
   ·have Wa:cj b i st.fs st.index=none:=by
     have:cB b i [st.index] st.fs=(cj b i st.fs st.index).bind (cB b i []):=rfl;rw[this]at G;generalize z:cj b i st.fs st.index=TA;induction TA with
     |none=>rfl
     |some f=>rw[z]at G;exact dk (G)
    simp only[aF,hV,aG];exact h' bK (fail (by simp [fR,Wa])) (k1.gG ((k.trans FR.of).trans k') (by exact m2))
  |eG l=>
   rwa[ac Gy,q ip hq];try clear Gy;subst ip
   rwa[aK (vR l oY),EJ Yu];have fC:∀ {Q E} {s:St},wp (bz .Is (.ref q) .none) Q E s=Q (.bool false) s:=fun{Q E s}=>gt rfl;simp only[bA (show ¬Ch.eG l=Ch.gc from nofun),aJ,c7,aM,aa,ae,az,dB,aI,af,aq,ak,am,aj,bU,ag,aS,fC,gy,bx,ai,b8];rwa[bk (by simp),aH f2 k2 l2];simp only[aX,aO,aN,aa,ae,az,bG,af,aq,ak,am,aj,bU,ag,cz,dp]
   skip
   refine eQ ?_;simp only[dB,aI,af,aq,ak,am,aj,bU,ag,aS,fC,aJ,gy,gL];refine(c9 q _ rfl (k2.bM hq) ?_);refine eh (λ j A B=>∃Y U wl,A=lR a b s.length (some (gZ st.rest)) (some (.int (p+1))) (some (.ref q)) (some (.int (i:Int))) (some (.ref wl)) Y U fQ none/\B[wl]?= some (.list ((dK (l.take j)).map .int))/\Kp [] aH B)
    (λ j A B O7=>by rwa[cy O7,_ _ _ _ _ k,-O7];exact k.bM (k2.bM hq)) (λ j v A B ub O KA wN=>?_) (λ A B O=>?_) _ 0 _ aH (by exact Nat.zero_add _) (Nat.zero_le _) (gN _ _ _ rfl f2 .refl)
   ·rwa[cy O,Y U wl iB KQ kw];try clear O;subst iB
    rw[cg]at ub;generalize hp:l[j]?= Tz;induction Tz with
    |none=>rw[hp]at ub;exact aD (ub)
    |some r=>
     rw[hp]at ub;obtain rfl:=an (ub);rwa[aK (Yu r (List.mem_of_getElem? hp)),d8 fu];rwa[aK d8,s1 s2];try clear d8;rwa[aK fu,s3 s4,-fu]
     have xI:=(cw.mp hp).1;have ZY:dK (l.take (j+1))=dK (l.take j)++di r.1 (r.2+1):=by erw[List.take_add_one,hp];simp [dK]
     have bl:(dK (l.take j)).length<=200100:=by have:=xB (l:=l.take j) λ r J=>Yu r (List.mem_of_mem_take J);rw[List.length_take]at this;exact wO (.i W0 (.c 200100)) [.i W1 (.c 100),.j W2 W1,.i W0 (.m 2001 W3),.o (.e (.i W2 W1) (.k W3 W2)) (.e (.i W1 W2) (.k W3 W1))] (.s 4 (.l [0,2001,0,1,2001,2001,1]) (.l [1,0,0,0,0,1])) rfl EJ xI this (Mine.L.vr _ _)
     unfold lR du;simp only[cD,bY,aO,aN,cQ,ae,az,bG,af,aq,ak,am,aj,bU,DB,ag,cz,dp,gf,cr (show -1000000<=r.1 by exact IR s1) (IQ s2),cr (show -1000000<=r.2+1 by exact IP s3) (IN s4),cP,Nz];rwa[bk (by rw[bo,bS];exact yE (.i W0 (.c 1000000)) [.l (.g (.c 1000)) Y0,.l Y1 (.c 1000),.o (.e (.l (.c 0) (.s (.a Y1 (.c 1)) Y0)) (.q (.t W0) (.s (.a Y1 (.c 1)) Y0))) (.e (.l (.s (.a Y1 (.c 1)) Y0) (.c 0)) (.k W0 (.c 0)))] (.s 3 (.l [0,1,0,1,1,1]) (.l [0,1,0,1])) rfl s1 s4 (Mine.L.bO _)),bf f3 k3 l3];rwa[sV (k3.bM KQ) f3 (by rw[bo,bo,bS];exact vC (.i (.a W0 W1) (.c 1000000)) [.l (.g (.c 1000)) Y0,.l Y1 (.c 1000),.i W0 (.c 200100),.o (.e (.l (.c 0) (.s (.a Y1 (.c 1)) Y0)) (.q (.t W1) (.s (.a Y1 (.c 1)) Y0))) (.e (.l (.s (.a Y1 (.c 1)) Y0) (.c 0)) (.k W1 (.c 0)))] (.s 4 (.l [0,1,0,1,1,1,1]) (.l [0,1,0,1,0,0,1])) rfl s1 s4 bl (Mine.L.bO _)),bK f4 k4 l4];simp only[aX,aO,aN,aa,aM,be];exact wN _ _ (gN _ _ _ rfl (by erw[f4,ZY,List.map_append];rfl) ((kw.trans k3).trans k4))
   ·rwa[cy O,Y U wl fZ KQ kw];try clear O;subst fZ
    rw[bo,List.take_length]at KQ;have U5:=k2.trans kw;unfold lR;simp only[aa,ae]
    erw[KX]
    refine wq (wanted:=dK l) (U5.bM hd) KQ J Ao hn (λ kz ef bK zJ G oG sC k' l'=>?_) (λ bK A G k'=>?_)
    ·simp only[aa,aM,be];refine ma _ _ (tV _ _ _ _ _ _ ⟨ef,st.index,st.rest⟩ (p+1) kz rfl (by erw[tk];simp [fR,G]) (λ hA=>?_) sC oG ((k.trans U5.of).trans k'));rcases hA _ oY with z|z
     ·exact bZ Ch.ctorIdx (z) rfl
     ·exact bZ Ch.ctorIdx (z) rfl
    ·simp only[aF,hV,aG];exact h' bK (fail (by simp [fR,G])) (k1.gG ((k.trans U5.of).trans k') (by exact m2))
 ·rwa[xS hI,x5 x6 x7 Y U fQ st p es gm w hh hd J k];try clear hI;subst gm
  rw[dT,List.take_length]at w;have Ao:st.fs.length=jH b:=by erw[gQ w];simp
  have qk:mP u b=oM st.fs st.rest:=by unfold mP;exact aU w rfl
  erw[hR,aa,ae,az]
  rwa[J3 (d:=s.length) rfl rfl rfl hd J Ao hb,aH f2 k2 l2];have kk:Kp [] s aH:=(k1.gG k (by exact m2)).trans k2;have prim:(st.fs.map λ x=>if x<0 then gZ st.rest else V.int x).all ki=true:=by
   rw[List.all_eq_true];intro v hv;rwa[ac (List.mem_map.mp hv),x _ iJ];subst iJ;by_cases q:x<0
   ·erw[if_pos q];unfold gZ;split<;> rfl
   ·erw[if_neg q];rfl
  have g1:∀ {Q E},wp (bz .In .none (.ref y.length)) Q E aH=_:=Fk f2 prim;unfold lR;simp only[aX,aO,aN,aa,ae,aT,dB,aI,ag,bU,af,aq,ak,am,aj,aS,g1];have kl:=k.1;by_cases q:st.rest<0/\∃x∈st.fs,x<0
  ·have e:((st.fs.map λ x=>if x<0 then gZ st.rest else V.int x).any λ x=>jL x .none)=true:=by
    rwa[aK q,q1 iU];try clear q;rwa[ac iU,x hx hx0,-iU]
    rw[List.any_eq_true];refine(aw _ (List.mem_map.mpr (aw x hx rfl)) ?_)
    erw[if_pos hx0];unfold gZ;erw[if_pos q1];rfl
   erw[e]
   simp only[aQ,gy,ag,br,aF,aG];refine h' aH ?_ kk
   erw[qk];unfold oM;erw[if_pos q];rfl
  ·have e:((st.fs.map λ x=>if x<0 then gZ st.rest else V.int x).any λ x=>jL x .none)=false:=by
    rw[List.any_eq_false];intro v hv;rwa[ac (List.mem_map.mp hv),x hx jl];subst jl;by_cases H:x<0
    ·erw[if_pos H];unfold gZ
     exact aU (if_neg (λ z=>q ⟨z,x,hx,H⟩)) (λ z=>(bZ Bool.ctorIdx (z) rfl))
    ·exact aU (if_neg H) (λ z=>(bZ Bool.ctorIdx (z) rfl))
   erw[e]
   simp only[aJ,gy,af,aq,ak,am,aj,br,aF,aG];refine h (st.fs.map λ x=>if x<0 then st.rest else x) aH _ ?_ ?_ kk (jI (.i W0 W1) [.k W2 (.a W0 (.c 1)),.i W2 W1] (.l [1,0,1,1]) rfl l1 kl)
   ·erw[qk];unfold oM;erw[if_neg q];rfl
   ·erw[f2,List.map_map]
    congr 1
    congr 1
    rwa[List.map_congr_left,x hx];show _=V.int (if x<0 then st.rest else x);by_cases H:x<0
    ·erw[if_pos H,if_pos H];unfold gZ
     erw[if_neg (λ z=>q ⟨z,x,hx,H⟩)];rfl
    ·erw[if_neg H,if_neg H];rfl
 ·have:x= -1:=by
   rw[List.getElem?_replicate]at hk
   split at hk
   ·exact(an hk).symm
   ·exact aD (hk)
  subst this
  rfl
 ·show 0+xk (List.replicate (jH b) (-1))=(List.replicate (jH b) (-1)).length;simp [xk,List.countP_replicate]
end
noncomputable def d6(i:Nat)(m:V)(d:Nat)(k l:Nat)(f e c b a o g r p h j q:Option V):Env:=[some (.ref i),some m,some (.int (d:Int)),some (.ref k),some (.ref l),f,e,c,b,a,o,g,r,p,h,j,q,none,none,none,none,none,none,none]
noncomputable def ui:S:=.ek (.m [9,10]) (.inl (.v 6)) [.e (.fY (.v 4) 1 [(.l [(.i (.v 9) (.k (.int 2))),(.i (.v 10) (.k (.int 2)))])]),.e (.fY (.v 8) 0 [(.tup [(.i (.v 9) (.k (.int 3))),(.i (.v 10) (.k (.int 3)))])])]
noncomputable def sY:S:=.ek (.m [6,7]) (.inl (.v 0)) [.a (.one 8) (.v 6),.ez (.p (.c .IsNot (.v 6) (.k .none)) (.c .NotEq (.v 6) (.k (.str "others")))) [.a (.one 8) (.l []),ui] [],.e (.fY (.v 5) 0 [(.tup [(.v 8),(.call (.k (.bi .len)) [(.v 5)])])])]
section
variable{ν:Type}{n:Nat}{E:Str->St->Prop}{s:St}
theorem WV(ha:s[a]?= some (.list (l.map (r7 w))))(he:s[e]?= some (.list []))(ht:Tl s f L)(A3:a≠f)(A:a≠e)(YA:e≠f)(hL:L.length+2 * l.length<=1000000)(hl:l.length<=1000)
  (h:∀b g m,b[e]?= some (.list (l.map λ p=>du (p.1.2,p.2.2)))->Tl b f (L++(eY.eG l).marks)->Kp [e,f] s b->Q (.next,d6 O gv d lw f G (some (.ref a)) B (some (.ref e)) g m none none none none none none) b):
  pw ((SS (n+20)).ex (d6 O gv d lw f G (some (.ref a)) B (some (.ref e)) g m none none none none none none) ui) Q E s:=by
 unfold ui d6
 skip
 refine eQ ?_;simp only[af,aq,ak,am,aj,gL];refine(c9 a _ rfl ha ?_);refine eh (λ i u b=>∃g m,u=d6 O gv d lw f G (some (.ref a)) B (some (.ref e)) g m none none none none none none/\b[e]?= some (.list ((l.take i).map λ p=>du (p.1.2,p.2.2)))/\Tl b f (L++(eY.eG (l.take i)).marks)/\Kp [e,f] s b)
  (λ i u b O6=>by rwa[dm O6,_ _ _ _ _ k,-O6];exact k.at ha (by exact wM (A) (A3))) (λ i v u b q r A8 ma=>?_) (λ u b r=>?_) _ 0 _ s (by simp) (Nat.zero_le _) (gj g m rfl (by simpa using he) (by simpa [eY.marks] using ht) .refl)
 ·rwa[dm r,g m bw y t k];try clear r;subst bw
  rw[cg]at q;generalize x:l[i]?= Tw;induction Tw with
  |none=>rw[x]at q;exact aD (q)
  |some p=>
   rw[x]at q;obtain rfl:=an (q);have Y:=(cw.mp x).1;have H:l.take (i+1)=l.take i++[p]:=by erw[List.take_add_one,x];rfl
   have mk:(eY.eG (l.take (i+1))).marks=(eY.eG (l.take i)).marks++[p.1.1,p.2.1]:=by erw[H];simp [eY.marks]
   have U:=jw (l.take i);rw[List.length_take]at U;have g1:∀ {Q E},wp (ge (.ref f) 1) Q E b=Q () b:=gK t (.inr rfl);unfold r7 iV d6;simp only[cD,bY,aO,aN,cQ,ae,cb,eV,af,aq,ak,am,aj,eU,g1,eT,ah,bx,aV,bU,ag,bp,t0,aA,ai,ao,b8];rwa[bk (by simp),ay f1 z l1];simp only[aA,ai,ao,gh];rwa[uN (us:=[.int p.1.1,.int p.2.1]) (z.bM t) f1 (by rw[bo,List.length_append];simp only[List.length_cons,List.length_nil];exact M8 hL Y U (Mine.L.vr _ _)),aH f2 k2 l2];have J:=k2.at (z.bM y) (by exact jh (YA));have g2:∀ {Q E},wp (ge (.ref e) 0) Q E aH=Q () aH:=gK J (.inl rfl);simp only[aP,aa,ae,cb,eV,af,aq,ak,am,aj,eU,g2,eT,ah,bX,aV,bU,ag,bp,mf,aA,ai,ao,cJ,gh];rwa[eZ J (by rw[bo,List.length_take];exact jI (.i (.a W0 (.c 1)) (.c 1000000)) [.i W1 (.c 1000),.j W2 W1,.o (.e (.i W2 W1) (.k W0 W2)) (.e (.i W1 W2) (.k W0 W1))] (.s 3 (.l [0,1,0,1,1,1]) (.l [0,1,0,1,1])) rfl hl Y (Mine.L.vr _ _)),bf f3 k3 l3];simp only[aP,aa,aM,be];refine ma _ _ (gj _ _ rfl ?_ ?_ (((k.trans z.of).trans (k2.wide (by simp))).trans (k3.wide (by simp))))
   ·erw[f3,H,List.map_append];rfl
   ·unfold Tl
    erw[k3.at f2 (by exact jh (YA.symm)),mk];simp
 ·rwa[dm r,g m b7 y t k];try clear r;subst b7
  rw[bo,List.take_length]at y t;exact h b g m y t k
theorem WU{nr:St->V->ν->Prop}{B d lw o a:Nat}{gv w:V}{m:List (eY×ν)}{us:List V}{L:List Int}{Q:Flow×Env->St->Prop}
  (ht:Tl s o L) (Y:dC nr s o w B m us) (hw:qP m) (ha:s[a]?= some (.list [])) (A3:a≠o) (wU:a≠B) (hac:∀vs,s[B]?= some (.list vs)->∀b u,.tup [.ref b,u]∈vs->b≠a) (hL:L.length+(m.flatMap (·.1.marks)).length<=1000000)
  (h:∀g x6 x7 x8 A G,qQ g a (m.map (·.1.ch))->Tl g o (L++m.flatMap (·.1.marks))->Kp [a,o] s g->Q (.next,d6 B gv d lw o (some (.ref a)) x6 x7 x8 A G none none none none none none) g):
  pw ((SS (n+30)).ex (d6 B gv d lw o (some (.ref a)) none none none none none none none none none none none) sY) Q E s:=by
 rwa[fh Y,vs zf lC qo CY hv,-Y];have dT:=hw.len;have blt:=bD ht;have alt:=bD ha;unfold sY
 skip
 refine eQ ?_;unfold d6;obtain ⟨CS,KX⟩:∃CS:S,CS=ui:=⟨_,rfl⟩;refine fM KX ?_;simp only[af,ak,am,aj,gL];refine(c9 B vs rfl zf ?_);refine eh (λ i ρ g=>∃ (x6 x7 x8 A G:Option V) (os:List V),ρ=d6 B gv d lw o (some (.ref a)) x6 x7 x8 A G none none none none none none/\g[a]?= some (.list ((List.range i).map fun(j:Nat)=>V.tup [(os[j]?).getD .none,.int (j:Int)]))/\os.length=i/\(∀b,.ref b∈os->s.length<=b)/\
   (∀ (j:Nat) (p:eY×ν),j<i->m[j]?= some p->∃v,os[j]?= some v/\oj g p.1.ch v)/\Tl g o (L++(m.take i).flatMap (·.1.marks))/\Kp [a,o] s g)
  (λ i ρ g O5=>by rwa[xU O5,_ _ _ _ _ _ _ _ _ _ _ _ k,-O5];exact k.at zf (by exact wM (wU.symm) (CY))) (λ i v ρ g sB hI KA wN=>?_) (λ ρ g hI=>?_) _ 0 _ s (by simp) (Nat.zero_le _) (CL none none none none none ([]) rfl (by simpa using ha) rfl (λ b h=>(bQ (h))) (λ j p h=>by exfalso;exact IJ h) (by simpa using ht) .refl)
 ·rwa[xU hI,x6 x7 x8 A G os cH hf H e3 e4 hH k];try clear hI;obtain rfl:=cH
  have zh:i<m.length:=by exact fM lC ((cw.mp sB).1)
  have NZ:=bT zh;generalize m[i]=p at NZ;rwa[cv (hv i p NZ),v' u q1 q2 O q4 q5];rw[sB]at q1;obtain rfl:=an (q1);have J:(m.take (i+1)).flatMap (·.1.marks)=(m.take i).flatMap (·.1.marks)++p.1.marks:=by erw[List.take_add_one,NZ];simp
  have wl:(L++(m.take i).flatMap (·.1.marks)).length+p.1.marks.length<=1000000:=by
   have e:m.flatMap (·.1.marks)=(m.take (i+1)).flatMap (·.1.marks)++(m.drop (i+1)).flatMap (·.1.marks):=by rw[← List.flatMap_append,List.take_append_drop]
   rw[e,J]at hL;simp only[List.length_append]at hL ⊢;exact MX hL
  have oY:∀b,v'=.ref b->b≠a:=λ b z=>hac vs zf b u (by exact fM z (List.mem_of_getElem? sB));have Hq:∀ (t:St) (po:V) (Q5 zJ:Option V),oj t p.1.ch po->(∀b,po=.ref b->s.length<=b/\b<t.length)->Tl t o (L++(m.take (i+1)).flatMap (·.1.marks))->Kp [o] g t->∀ (n':Nat),
    px (n'+10) [.e (.fY (.v 5) 0 [(.tup [(.v 8),(.call (.k (.bi .len)) [(.v 5)])])])] (d6 B gv d lw o (some (.ref a)) (some v') (some u) (some po) Q5 zJ none none none none none none)
     (gC Q KA) E t:=by
   intro t po Q5 zJ f Db NM U n';have pe:=U.at hf (by exact jh (A3));have g1:∀ {Q E},wp (ge (.ref a) 0) Q E t=Q () t:=gK pe (.inl rfl);have gl:∀ {Q E},wp (iu .len [.ref a]) Q E t=Q (.int (i:Int)) t:=by intro Q E;erw[len_list pe];simp
   unfold d6;simp only[ae,cb,eV,af,aq,ak,am,aj,eU,g1,eT,ah,bX,aA,ax,ag,aL,ai,ao,aB,aZ,gl,cJ,gh];rwa[eZ pe (by rw[bo,List.length_range];exact iA (.i (.a W0 (.c 1)) (.c 1000000)) [.i W1 (.c 100),.j W0 W1] (.l [1,1,1]) rfl dT zh),bf f3 k3 l3];simp only[aP,aa,aM,be];refine wN _ _ (CL _ _ _ _ _ (os++[po]) rfl ?_ (by simp [H]) (λ b x=>?_) (λ j p' hj Jr=>?_) (k3.at NM (by exact jh (A3.symm))) ((k.trans (U.wide (by simp))).trans (k3.wide (by simp))))
   ·erw[f3,List.range_succ,List.map_append]
    congr 1
    congr 1
    congr 1
    ·rwa[List.map_congr_left,j hj];rw[List.mem_range]at hj
     erw[List.getElem?_append_left (vA H hj)];rfl
    ·simp [← H]
   ·rcases List.mem_append.mp x with x|x
    ·exact e3 b x
    ·rw[dF]at x;exact(Db b x.symm).1
   ·by_cases q:j<i
    ·rwa[ac (e4 j p' q Jr),oU w1 y];refine(aw oU (by exact aU (List.getElem?_append_left (vA H q)) w1) ?_);generalize A1:p'.1.ch=Tv;induction Tv with
     |pos=>rw[A1]at y;exact y
     |gc=>rw[A1]at y;exact y
     |eG l=>
      rw[A1]at y;rwa[ac y,b dy x];try clear y;obtain rfl:=dy
      have:=e3 b (List.mem_of_getElem? w1);exact(aw b rfl (k3.at (U.at x (by simp;exact Cb blt this)) (by simp;exact Cb alt this)))
    ·have:j=i:=by exact MW hj q
     subst this
     rw[NZ]at Jr;obtain rfl:=an (Jr)
     refine(aw po (by erw[List.getElem?_append_right (by exact Fv H),H];simp) ?_)
     generalize A1:p.1.ch=Tu;induction Tu with
     |pos=>rw[A1]at f;exact f
     |gc=>rw[A1]at f;exact f
     |eG l=>
      rw[A1]at f;rwa[ac f,b eK x];try clear f;obtain rfl:=eK
      have:=(Db b rfl).1;exact(aw b rfl (k3.at x (by simp;exact Cb alt this)))
  obtain ⟨R,hR⟩:∃R:List S,R=[.e (.fY (.v 5) 0 [(.tup [(.v 8),(.call (.k (.bi .len)) [(.v 5)])])])]:=⟨_,rfl⟩;rw[← hR]at Hq ⊢;unfold d6 at Hq ⊢;have kl:=k.1;generalize f:p.1=Ts;induction Ts with
  |pos=>
   rw[f]at O J
   cases O
   have fC:∀ {Q E} {s:St},wp (bz .IsNot .none .none) Q E s=Q (.bool false) s:=fun{Q E s}=>fy (r:=true) rfl;simp only[cD,bY,aO,aN,cQ,ae,az,af,aq,ak,am,aj,aX,aa,bv,dU,aI,bU,ag,aS,fC,aJ,tI,c7,aM];refine Hq g .none A G (by exact aU f rfl) (λ b z=>(bZ ri (z) rfl)) ?_ .refl _
   erw[J];simpa [eY.marks] using hH
  |gc=>
   rw[f]at O J
   cases O
   have fC:∀ {Q E} {s:St},wp (bz .IsNot (.str "others") .none) Q E s=Q (.bool true) s:=fun{Q E s}=>fy (r:=false) rfl;have CI:∀ {Q E} {s:St},wp (bz .NotEq (.str "others") (.str "others")) Q E s=Q (.bool false) s:=fun{Q E s}=>rJ (r:=true) (by exact aU um rfl);simp only[cD,bY,aO,aN,cQ,ae,az,af,aq,ak,am,aj,aX,aa,bv,dU,aI,bU,ag,aS,fC,aQ,gy,CI,cW,aJ,c7,aM];refine Hq g (.str "others") A G (by exact aU f rfl) (fun b z=>(bZ ri (z) rfl)) ?_ .refl _
   erw[J];simpa [eY.marks] using hH
  |eG l=>
   have EJ:=hw.rl p (List.mem_of_getElem? NZ) l f;rw[f]at O J wl;rw[jw]at wl;rwa[ac O,c fO uc];try clear O;obtain rfl:=fO
   have lD:=k.at uc (by exact wM (oY c rfl) (q4 c rfl));have clt:=bD uc;have fC:∀ {Q E} {s:St},wp (bz .IsNot (.ref c) .none) Q E s=Q (.bool true) s:=fun{Q E s}=>fy (r:=false) rfl;have CI:∀ {Q E},wp (bz .NotEq (.ref c) (.str "others")) Q E g=Q (.bool true) g:=rJ (r:=false) (J0 lD);simp only[cD,bY,aO,aN,cQ,ae,az,af,aq,ak,am,aj,aX,aa,bv,dU,aI,bU,ag,aS,fC,aQ,gy,CI,cW,c7,bx,ai,b8];rwa[bk (by simp),t f2 U l2];simp only[aX,aO,aN,aa,ae]
   erw[KX]
   rwa[WV (U.bM lD) f2 (U.bM hH) (q4 c rfl) (vz kl clt) (Cb blt kl) wl EJ,bf Q5 zJ h1 h2 k3];unfold d6;simp only[aa,aM];refine Hq bf (.ref g.length) Q5 zJ (by exact aU f (aw _ rfl (by erw[h1];simp [eY.ch]))) (λ b z=>by obtain rfl:=V.ref.inj (z);exact⟨kl,bD h1⟩) ?_ (U.of.gG k3 (by simp)) _;rw[J,← List.append_assoc];exact h2
 ·rwa[xU hI,x6 x7 x8 A G os gU hf H e3 e4 hH k];try clear hI;obtain rfl:=gU
  rw[lC,List.take_length]at hH;rw[lC]at hf H e4;refine h g x6 x7 x8 A G (cR _ hf (by simp) (λ i c f=>?_)) hH k;rw[cg]at f;generalize Y:m[i]?= Tr;induction Tr with
  |none=>rw[Y]at f;exact aD (f)
  |some p=>rw[Y]at f;obtain rfl:=an (f);have zh:=(cw.mp Y).1;exact ac (e4 i p zh Y) λ v w1 y=>(aw v (by erw[cg,List.getElem?_range zh];simp [w1]) y)
end
noncomputable def sW:S:=.ek (.one 14) (.inr (none,(.call (.k (.bi .len)) [(.v 0)]))) [.ek (.one 15) (.inr (none,(.call (.k (.bi .len)) [(.v 12)]))) [.ez (.c .Eq (.i (.v 12) (.v 15)) (.v 14)) [.dc (.v 13) (.v 15) (.call (.k (.fn 93)) [(.i (.i (.v 0) (.v 14)) (.k (.int 1))),(.v 1),(.v 2),(.v 3),(.v 4)]),.ez (.call (.k (.bi .isinstance)) [(.i (.v 13) (.v 15)),(.k (.bi .nF))]) [.ret (some (.i (.v 13) (.v 15)))] []] []]]
section
variable{ν α:Type}{n:Nat}{E:Str->St->Prop}{s:St}
noncomputable def G3(n:Nat)(E:Str->St->Prop)(h:ν->Except Str α×List Int)(o:Nat->St->V->α->Prop)(m:V)(d l e:Nat)(s:St)(c:List ν)(k:List V):Prop:=
 ∀ (p:Nat) (g:ν) (u:V) (f:St) (i:List Int) (j:V->St->Prop),c[p]?= some g->k[p]?= some u->Kp [e] s f->Tl f e i->i.length+(h g).2.length<=1000000->
  (∀w b,(h g).1=.error w->Tl b e (i++(h g).2)->Kp [e] f b->j (.str w) b)->(∀a v b,(h g).1=.ok a->o f.length b v a->Tl b e (i++(h g).2)->Kp [e] f b->j v b)->pc (n+59) (.fn 93) [u,m,.int (d:Int),.ref l,.ref e] j E f
structure GY(VR:Nat->St->V->α->Prop):Prop where
 kp:∀lo ay aH v a W,VR lo ay v a->Kp W ay aH->(∀b∈W,b<lo)->VR lo aH v a
 low:∀lo z7 s v a,VR lo s v a->z7<=lo->VR z7 s v a
 inst:∀lo s v a,VR lo s v a->I6 v=some false
noncomputable def eS(a:List Int)(p j:Nat):List Nat:=((List.range a.length).drop j).filter λ k=>a[k]?== some (p:Int)
theorem mQ(a:List Int)(p:Nat):eS a p 0=cF a p:=by unfold eS cF;exact aU List.drop_zero rfl
theorem ve(a:List Int)(p:Nat):eS a p a.length=[]:=by unfold eS;erw[List.drop_eq_nil_of_le (by simp)];rfl
theorem tm(h:a[j]?= some y):eS a p j=if y=(p:Int)then j::eS a p (j+1)else eS a p (j+1):=by
 have b:=(cw.mp h).1;unfold eS
 erw[List.drop_eq_getElem_cons (by simpa using b),List.filter_cons]
 simp only[List.getElem_range]
 erw[h]
 by_cases q:y=(p:Int)
 ·erw[if_pos q,if_pos (by rw[q];simp)];rfl
 ·erw[if_neg q,if_neg (by simp [q])];rfl
theorem WT{H d lw r O f:Nat}{gv:V}{x5 x6 x7 x8 x9 fQ wW rh A EA:Option V}{L:List Int}{row:List Int}{nodes:List ν}{us vs:List V}{ev:ν->Except Str α×List Int}{VR:Nat->St->V->α->Prop}{Q:Flow×Env->St->Prop}
  (hp:s[H]?= some (.list vs)) (zb:vs.length=nodes.length) (Jl:us.length=nodes.length) (Oe:∀ (p:Nat) (u:V),us[p]?= some u->∃c,vs[p]?= some (.tup [c,u])) (Yp:s[O]?= some (.list (row.map .int))) (hf:s[f]?= some (.list (List.replicate row.length .none)))
  (ht:Tl s r L) (C9:H≠r/\H≠f) (KU:O≠r/\O≠f) (RR:f≠r) (hl:nodes.length<=100) (hr:row.length<=100)
  (EK:GY VR) {s₀:St} (k0:Kp [r] s₀ s) (hf0:s₀.length<=f) (Jj:G3 n E ev VR gv d lw r s₀ nodes us)
  (hL:L.length+(bB ev row nodes 0 (List.replicate row.length none)).2.length<=1000000)
  (hQ:∀g ws t rh A,(bB ev row nodes 0 (List.replicate row.length none)).1=.ok g->t[f]?= some (.list ws)->nu (VR s.length) t ws g->Tl t r (L++(bB ev row nodes 0 (List.replicate row.length none)).2)->Kp [r,f] s t->Q (.next,d6 H gv d lw r x5 x6 x7 x8 x9 fQ wW (some (.ref O)) (some (.ref f)) rh A EA) t)
  (hE:∀w t Y,(bB ev row nodes 0 (List.replicate row.length none)).1=.error w->Tl t r (L++(bB ev row nodes 0 (List.replicate row.length none)).2)->Kp [r,f] s t->Q (.ret (.str w),Y) t):
  pw ((SS (n+64)).ex (d6 H gv d lw r x5 x6 x7 x8 x9 fQ wW (some (.ref O)) (some (.ref f)) rh A EA) sW) Q E s:=by
 generalize hT:bB ev row nodes 0 (List.replicate row.length none)=T at hL hQ hE;obtain ⟨RN,HC⟩:∃R,R=row.length:=⟨_,rfl⟩;obtain ⟨N,hN⟩:∃N,N=nodes.length:=⟨_,rfl⟩;have Zb:=bD hf;have Nj:=bD ht;have pf:H∉[r,f]:=by exact wM (C9.1) (C9.2)
 have rf:O∉[r,f]:=by exact wM (KU.1) (KU.2)
 have kf:∀ {t:St},Kp [r,f] s t->Kp [r] s₀ t:=λ k=>k0.gG k (by simp;exact jI (.o (.k W0 W1) (.i W2 W0)) [.i W2 W0] (.s 0 (.l [1,1]) (.l [1,1])) rfl hf0);have glp:∀ {t},t[H]?= some (.list vs)->∀ {Q E},wp (iu .len [.ref H]) Q E t=Q (.int (N:Int)) t:=by intro t h Q E;erw[len_list h,zb,hN];rfl
 have KY:∀ {t},t[O]?= some (.list (row.map .int))->∀ {Q E},wp (iu .len [.ref O]) Q E t=Q (.int (RN:Int)) t:=by intro t h Q E;rw[len_list h,bo,HC]
 unfold sW d6
 skip
 refine f0 ?_;simp only[dJ,ax,ag,aL,ah,af,ak,am,aj,aA,ai,ao,aB,aZ,glp hp,gf,cr (show -1000000<= (0:Int)by decide) (by decide),cr (show -1000000<= (N:Int)by exact B7) (by exact Cf hl hN),cP,iG];refine eM (xs:=di 0 (N:Int)) (λ p Y bh=>∃ (rh A:Option V) (g:List (Option α)) (ws:List V) (dd:List Int),Y=d6 H gv d lw r x5 x6 x7 x8 x9 fQ wW (some (.ref O)) (some (.ref f)) rh A EA/\bh[f]?= some (.list ws)/\nu (VR s.length) bh ws g/\g.length=row.length/\Tl bh r (L++dd)/\Kp [r,f] s bh/\
   T.1=(bB ev row (nodes.drop p) p g).1/\T.2=dd++(bB ev row (nodes.drop p) p g).2)
  (λ p x Y bh hx hI A8 ma=>?_) (λ Y bh hI=>?_) _ 0 _ s (Nat.zero_add _) (xz rh A (List.replicate row.length none) _ ([]) rfl hf ⟨by simp,λ k x hk=>?_⟩ (by simp) (by simpa using ht) .refl (by erw[List.drop_zero,hT];rfl) (by erw[List.drop_zero,hT];rfl))
 ·rwa[xV hI,rh A g ws dd bw JB kM A3 hH kq As xL];try clear hI;obtain rfl:=bw
  rwa[aK (cS hx),NI xE];rw[Int.zero_add]at NI;subst NI;have uG:p<nodes.length:=by exact EC hN xE
  have Ob:nodes[p]?= some nodes[p]:=bT uG;have lM:=List.drop_eq_getElem_cons uG;generalize nodes[p]=m at Ob lM;have Jm:us[p]?= some (us[p]'(by exact vA Jl uG)):=bT (by exact vA Jl uG);generalize us[p]'(by exact vA Jl uG)=u at Jm;rwa[aW (Oe p u Jm),c Vm];rw[lM]at As xL;have qE:bB ev row (m::nodes.drop (p+1)) p g=(match dO ev m (cF row p) g with
   |(.error w,l)=>(.error w,l)
   |(.ok b,l)=>((bB ev row (nodes.drop (p+1)) (p+1) b).1,l++(bB ev row (nodes.drop (p+1)) (p+1) b).2)):=rfl
  unfold d6;simp only[bt,aO,aN,cQ,ae]
  skip
  refine f0 ?_;simp only[dJ,ax,ag,aL,ah,af,aq,ak,am,aj,aA,ai,ao,aB,aZ,KY (kq.at Yp rf),gf,cr (show -1000000<= (0:Int)by decide) (by decide),cr (show -1000000<= (RN:Int)by exact B7) (by exact Cf hr HC),cP,iG];refine eM (xs:=di 0 (RN:Int)) (λ j Y B=>∃ (A:Option V) (b:List (Option α)) (om:List V) (J:List Int),Y=d6 H gv d lw r x5 x6 x7 x8 x9 fQ wW (some (.ref O)) (some (.ref f)) (some (.int (p:Int))) A EA/\B[f]?= some (.list om)/\nu (VR s.length) B om b/\b.length=row.length/\Tl B r (L++(dd++J))/\Kp [r,f] s B/\
    (dO ev m (cF row p) g).1=(dO ev m (eS row p j) b).1/\(dO ev m (cF row p) g).2=J++(dO ev m (eS row p j) b).2)
   (λ j x Y B za hJ KA wN=>?_) (λ Y B hJ=>?_) _ 0 _ bh (Nat.zero_add _) (nP A g ws ([]) rfl JB kM A3 (by simpa using hH) kq (by rw[mQ]) (by rw[mQ];rfl))
  ·rwa[qA hJ,A b om J b7 zj jc m8 vQ wP wR U];try clear hJ;obtain rfl:=b7
   rwa[aK (cS za),NJ hj];rw[Int.zero_add]at NJ;subst NJ;have Am:j<row.length:=by exact EC HC hj
   have AZ:=bT Am;generalize row[j]=y at AZ;have g1:∀ {Q E},wp (cK (.ref O) (.int (j:Int))) Q E B=Q (.int y) B:=bL (wP.at Yp rf) (by erw[cg,AZ];rfl);have g2:∀ {Q E},wp (bz .Eq (.int y) (.int (p:Int))) Q E B=Q (.bool (decide (y=(p:Int)))) B:=iM AF;have g3:∀ {Q E},wp (cK (.ref H) (.int (p:Int))) Q E B=Q (.tup [c,u]) B:=bL (wP.at hp pf) Vm;rw[tm AZ]at wR U;unfold d6;simp only[bt,aO,aN,cQ,ae,bv,aI,aV,af,aq,ak,am,aj,bU,bp,g1,aS,g2];by_cases q:y=(p:Int)
   ·rw[if_pos q]at wR U;simp only[bq q,aQ,c7,ae,fp,ax,ag,aL,ah,aV,af,ak,am,aj,bU,aq,bp,g3,eP,aA,ai,ao,aB];have qx:dO ev m (j::eS row p (j+1)) b=(match ev m with
     |(.error w,l)=>(.error w,l)
     |(.ok v,l)=>((dO ev m (eS row p (j+1)) (b.set j (some v))).1,l++(dO ev m (eS row p (j+1)) (b.set j (some v))).2)):=rfl
    have hb:(L++(dd++J)).length+(ev m).2.length<=1000000:=by
     have z1:(ev m).2.length<= (dO ev m (j::eS row p (j+1)) b).2.length:=by
      erw[qx]
      generalize hh:ev m=Tq;induction Tq with
      |mk q l=>induction q with
       |error w=>exact Nat.le_refl _
       |ok v=>show l.length<= (l++_).length;exact aU List.length_append (Mz)
     have z2:(dO ev m (cF row p) g).2.length<= (bB ev row (m::nodes.drop (p+1)) p g).2.length:=by
      erw[qE]
      generalize hh:dO ev m (cF row p) g=To;induction To with
      |mk q l=>induction q with
       |error w=>exact Nat.le_refl _
       |ok v=>show l.length<= (l++_).length;exact aU List.length_append (Mz)
     have z3:=congrArg List.length U;have z4:=congrArg List.length xL;simp only[List.length_append]at z3 z4 hL ⊢;exact M2 hL z1 z2 z3 z4
    have XM:=wP.1;refine Jj p m u B (L++(dd++J)) _ Ob Jm (kf wP) vQ hb (λ w' bK hw Jn k4=>?_) (λ a v bK ha RB Jn k4=>?_)
    ·have wT:=k4.at zj (by exact jh (RR));have lL:j<om.length:=by erw[jc.1,m8];exact Am
     simp only[lu,af,aq,ak,am,aj,ls,nO]
     rwa[kC wT (by exact B8) (by exact Cg lL),G f5 k5 l5]
     rw[Int.toNat_natCast]at f5
     have g5:∀ {Q E},wp (cK (.ref f) (.int (j:Int))) Q E G=Q (.str w') G:=bL f5 (by erw[List.getElem?_set_self lL];rfl)
     have g6:∀ {Q E},wp (iu .isinstance [.str w',.bi .nF]) Q E G=Q (.bool true) G:=bJ rfl
     simp only[aP,aa,ae,bv,ax,ag,aL,ah,aV,af,aq,ak,am,aj,bU,bp,g5,aA,ai,ao,aB,aZ,g6,aQ,c7,aT,br,aF,hV]
     have er:(dO ev m (cF row p) g)=(.error w',J++(ev m).2):=by
      refine Prod.ext ?_ ?_
      ·erw[wR,qx]
       generalize hh:ev m=Tn;induction Tn with
       |mk q l=>rw[hh]at hw;cases hw;rfl
      ·erw[U,qx]
       generalize hh:ev m=Tm;induction Tm with
       |mk q l=>rw[hh]at hw;cases hw;rfl
     refine hE w' G _ (by erw[As,qE,er];rfl) ?_ ((wP.trans (k4.wide (by simp))).trans (k5.wide (by simp)))
     erw[xL,qE,er]
     have:=k5.at Jn (by exact jh (RR.symm));unfold Tl;erw[this];simp [List.append_assoc]
    ·have wT:=k4.at zj (by exact jh (RR));have lL:j<om.length:=by erw[jc.1,m8];exact Am
     simp only[lu,af,aq,ak,am,aj,ls,nO]
     rwa[kC wT (by exact B8) (by exact Cg lL),G f5 k5 l5]
     rw[Int.toNat_natCast]at f5
     have g5:∀ {Q E},wp (cK (.ref f) (.int (j:Int))) Q E G=Q v G:=bL f5 (by erw[List.getElem?_set_self lL];rfl)
     have g6:∀ {Q E},wp (iu .isinstance [v,.bi .nF]) Q E G=Q (.bool false) G:=bJ (by show vk (I6 v) G=_;erw[EK.inst _ _ _ _ RB];rfl)
     simp only[aP,aa,ae,bv,ax,ag,aL,ah,aV,af,aq,ak,am,aj,bU,bp,g5,aA,ai,ao,aB,aZ,g6,aJ,c7,aM,be]
     have X5:Kp [r,f] B G:=(k4.wide (by simp)).trans (k5.wide (by simp))
     refine wN _ _ (nP _ (b.set j (some a)) (om.set j v) (J++(ev m).2) rfl f5 ⟨by simp [jc.1],λ k x hk=>?_⟩ (by simp [m8]) ?_ (wP.trans X5) ?_ ?_)
     ·by_cases q:k=j
      ·subst q;rw[List.getElem?_set_self (by exact aU m8 Am)]at hk;obtain rfl:=an (hk);exact(aw v (by erw[List.getElem?_set_self lL];rfl) (EK.low _ _ _ _ _ (EK.kp _ _ _ _ _ _ RB k5 (by simp;exact jI (.j W0 W1) [.j W0 W2,.i W2 W1] (.l [1,1,1]) rfl Zb XM)) (by exact ML XM)))
      ·rw[List.getElem?_set_ne (λ z=>q z.symm)]at hk;rwa[ac (jc.2 k x hk),oU w1 w2];refine(aw oU (by exact aU (List.getElem?_set_ne (λ z=>q z.symm)) w1) ?_)
       induction x with
       |none=>exact w2
       |some y=>exact EK.kp _ _ _ _ _ _ w2 X5 (by simp;exact jI (.e (.j W0 W1) (.j W2 W1)) [.j W2 W1,.j W0 W1] (.s 0 (.l [1,0,1]) (.l [1,1])) rfl Zb Nj)
     ·have:=k5.at Jn (by exact jh (RR.symm));unfold Tl;erw[this];simp [List.append_assoc]
     ·erw[wR,qx]
      generalize hh:ev m=Tk;induction Tk with
      |mk q l=>rw[hh]at ha;cases ha;rfl
     ·erw[U,qx]
      generalize hh:ev m=Tj;induction Tj with
      |mk q l=>rw[hh]at ha;cases ha;simp
   ·rw[if_neg q]at wR U;simp only[bA q,aJ,c7,aM,aa,be];exact wN _ _ (nP _ b om J rfl zj jc m8 vQ wP wR U)
  ·rwa[qA hJ,A b om J cH zj jc m8 vQ wP wR U];try clear hJ;obtain rfl:=cH
   have eR:(di 0 (RN:Int)).length=row.length:=by rw[bS];exact Hm HC (Mine.L.bO _)
   rw[eR,ve]at wR U;have er:(dO ev m (cF row p) g)=(.ok b,J):=Prod.ext wR (by exact aU U (List.append_nil _));unfold d6;simp only[aa,aM,be];refine ma _ _ (xz _ _ b om (dd++J) rfl zj jc m8 vQ wP ?_ ?_)
   ·erw[As,qE,er];rfl
   ·rw[xL,qE,er,List.append_assoc]
 ·rwa[xV hI,rh A g ws dd dy JB kM A3 hH kq As xL];try clear hI;obtain rfl:=dy
  have eN:(di 0 (N:Int)).length=nodes.length:=by rw[bS];exact Hm hN (Mine.L.bO _)
  rw[eN,List.drop_length]at As xL;have h2:T.2=dd:=by exact aU xL (List.append_nil _)
  exact hQ g ws bh rh A As JB kM (by exact aU h2 hH) kq
 ·have Ju:=(cw.mp hk).1;rw[List.getElem?_replicate,if_pos (by simpa using Ju)]at hk;obtain rfl:=an (hk);exact(aw .none (by erw[List.getElem?_replicate,if_pos (by simpa using Ju)];rfl) rfl)
end
noncomputable def nK:List S:=[
 .ez (.c .Eq (.b .Add (.v 2) (.k (.int 1))) (.call (.k (.bi .len)) [(.v 3)])) [.ret (some (.tup [(.l [(.v 11)]),(.v 13)]))] [],
 .a (.one 16) (.ite (.c .NotEq (.v 13) (.l [])) (.i (.i (.v 13) (.k (.int 0))) (.k (.int 0))) (.ite (.c .Is (.v 1) (.k .none)) (.l [(.tup [(.k (.int 1)),(.k (.int 0))])]) (.l [(.i (.v 1) (.b .Add (.v 2) (.k (.int 1))))]))),
 .ez (.c .NotEq (.comp [none,none,some 16] (.v 1) [((.one 1),(.inl (.v 13)),[(.c .NotEq (.i (.v 1) (.k (.int 0))) (.v 2))])]) (.l [])) [.ret (some (.k (.str "constraint_error")))] [],
 .ret (some (.tup [(.b .Add (.l [(.v 11)]) (.v 16)),(.comp [none,none,none] (.v 2) [((.one 1),(.inl (.v 13)),[]),((.one 2),(.inl (.i (.v 1) (.k (.int 1)))),[])])]))]
section
variable{ν α:Type}{n:Nat}{E:Str->St->Prop}{s:St}
theorem Qy{nr:St->V->ν->Prop}{pa d lw y:Nat}{w O:V}{gs:Option (List Rg)}{o:Int}{los:List Int}{f:List (eY×ν)}{us:List V}{L:List Int}{ev:ν->Except Str α×List Int}{VR:Nat->St->V->α->Prop}{Q:V->St->Prop}
  (ht:Tl s y L) (hp:dC nr s y w pa f us) (hw:qP f) (Ak:∀p∈f,∀l,p.1=.eG l->l.length<=100) (hg:kv s O gs) (oH:∀a,O=.ref a->a≠y) (qp:∀l,gs=some l->d<l.length) (rp:∀l,gs=some l->∀g∈l,cE g.1/\cE g.2) (qm:cE o)
  (qY:s[lw]?= some (.list (los.map .int))) (mi:lw≠y) (VI:los[d]?= some o) (hd:d<=100)
  (EK:GY VR) (Jj:G3 n E ev VR O d lw y s (f.map (·.2)) us)
  (mj:L.length+(c8 ev f (cn gs d) o).2.length<=1000000)
  (hE:∀w J,(c8 ev f (cn gs d) o).1=.error w->Tl J y (L++(c8 ev f (cn gs d) o).2)->Kp [y] s J->Q (.str w) J)
  (hQ:∀b B ws J a' lo x5 x6 x7 x8 x9 fQ AS rh ny,s.length<=lo->(c8 ev f (cn gs d) o).1=.ok (b,B)->J[a']?= some (.list ws)->nu (VR lo) J ws B->Tl J y (L++(c8 ev f (cn gs d) o).2)->Kp [y] s J->s.length<=a'->
   px (n+64) nK (d6 pa O d lw y x5 x6 x7 x8 x9 fQ (some (du b)) AS (some (.ref a')) rh ny none) (ko Q) E J):
  pc (n+64) (.fn 92) [.ref pa,O,.int (d:Int),.ref lw,.ref y] Q E s:=by
 have uc:=hw.len;have K3:(f.map (·.1.ch)).length<=100:=by rw[bo];exact uc
 have vR:∀l,Ch.eG l∈f.map (·.1.ch)->l.length<=100/\∀r∈l,dZ r:=λ l hl=>by
  rwa[ac (List.mem_map.mp hl),p hp e];refine⟨?_,hw.sm p hp l e⟩;generalize hc:p.1=Ti;induction Ti with
  |pos=>rw[hc]at e;exact bZ Ch.ctorIdx (e) rfl
  |gc=>rw[hc]at e;exact bZ Ch.ctorIdx (e) rfl
  |eG l'=>
   rw[hc]at e
   cases e
   rw[bo];exact Ak p hp l' hc
 have nz:=lT K3 (λ l hl=>(vR l hl).2) (given:=cn gs d) (low:=o) (λ g hg=>by
  induction gs with
  |none=>exact aD (hg)
  |some l=>exact rp l rfl g (List.mem_of_getElem? hg)) qm
 have hm:L.length+(f.flatMap (·.1.marks)).length<=1000000:=by
  have:(f.flatMap (·.1.marks)).length<= (c8 ev f (cn gs d) o).2.length:=by
   unfold c8
   split
   ·exact Nat.le_refl _
   ·split
    ·exact Nat.le_refl _
    ·split
     ·exact Nat.le_refl _
     ·simp
  exact MU mj this
 have Nj:=bD ht;have wlt:=bD qY;rwa[fh (id hp),vs zf lC qo CY hv];have Uy:=bD zf;refine(ba (ρ:=[some (.ref pa),some (O),some (.int (d:Int)),some (.ref lw),some (.ref y),none,none,none,none,none,none,none,none,none,none,none,none,none,none,none,none,none,none,none]) (by decide) rfl rfl).mpr ?_;rw[show Px.body=[.a (.one 5) (.l []),sY,
  .a (.one 11) (.call (.k (.fn 90)) [(.v 5),(.ite (.c .Is (.v 1) (.k .none)) (.k .none) (.i (.v 1) (.v 2))),(.i (.v 3) (.v 2))]),
  .ez (.c .Is (.v 11) (.k .none)) [.ret (some (.k (.str "constraint_error")))] [],
  .ez (.c .Gt (.b .Add (.b .Sub (.i (.v 11) (.k (.int 1))) (.i (.v 11) (.k (.int 0)))) (.k (.int 1))) (.k (.int 24))) [.ret (some (.k (.str "storage_error")))] [],
  .a (.one 12) (.call (.k (.fn 91)) [(.v 5),(.v 11)]),
  .ez (.c .Is (.v 12) (.k .none)) [.ret (some (.k (.str "constraint_error")))] [],
  .a (.one 13) (.b .Mult (.l [(.k .none)]) (.call (.k (.bi .len)) [(.v 12)])),sW]++nK from rfl]
 obtain ⟨R,hR⟩:∃R:List S,R=nK:=⟨_,rfl⟩;obtain ⟨T,hT⟩:∃T:S,T=sY:=⟨_,rfl⟩;obtain ⟨W,hW⟩:∃W:S,W=sW:=⟨_,rfl⟩;rw[← hR]at hQ ⊢;refine fM hT (fM hW ?_);simp only[List.cons_append,List.nil_append];simp only[ae,az,bx,ai,b8];rwa[bk (by simp),ay f1 k1 l1];simp only[aX,aO,aN,aa,ae]
 erw[hT]
 refine WU (k1.bM ht) (dC.kp (s:=s) (s':=ay) (nr:=λ _ u x=>nr s u x) (λ _ _ h=>h) (by exact hp) k1.of) hw f1 (by exact AX Nj) (by exact AX Uy) (λ HX NL b u hb=>?_) hm λ G x6 x7 x8 x9 fQ tr t2 k2=>?_
 ·rw[k1.bM zf]at NL
  cases NL
  rwa[aW (List.getElem?_of_mem hb),i hi];have m7:i<f.length:=by exact fM lC ((cw.mp hi).1)
  rwa[cv (hv i f[i] (bT m7)),v u' e1 e2 U e4 e5];rw[hi]at e1
  cases e1
  have:b<s.length:=by
   generalize hc:f[i].1=Tg;induction Tg with
   |pos=>rw[hc]at U;exact bZ ri (U) rfl
   |gc=>rw[hc]at U;exact bZ ri (U) rfl
   |eG l=>rw[hc]at U;rwa[ac U,b' mG e,-U];obtain rfl:=V.ref.inj (mG);exact bD e
  exact AW this
 have FU:Kp [y] s G:=k1.of.gG k2 (by simp);have X8:=FU.1;have Ov:∀ {K:V->St->Prop} {ρ:Env} {m:Nat},(ρ[1]?).getD none=some O->(ρ[2]?).getD none=some (.int (d:Int))->K (hG (cn gs d)) G->wp (bz .Is O .none) (mc (kE (SS (m+2)) ρ (.k .none) K E) (kE (SS (m+2)) ρ (.i (.v 1) (.v 2)) K E)) E G:=by
  intro K ρ m U e4 A
  induction gs with
  |none=>
   have e:O=.none:=hg;subst e;have fC:∀ {Q E},wp (bz .Is .none .none) Q E G=Q (.bool true) G:=gt rfl
   erw[fC,aQ,gy,ag]
   exact A
  |some l=>
   rwa[ac (id hg),ga bw vU];obtain rfl:=bw;have fC:∀ {Q E},wp (bz .Is (.ref ga) .none) Q E G=Q (.bool false) G:=gt rfl;have Ox:=qp l rfl;have Jv:=FU.at vU (by exact jh (oH ga rfl));have sA:K (du l[d]) G:=by have e:cn (some l) d=some l[d]:=bT Ox;rw[e]at A;exact A
   have g3:∀ {Q E},wp (cK (.ref ga) (.int (d:Int))) Q E G=Q (du l[d]) G:=bL Jv (by erw[cg,bT Ox];rfl)
   erw[fC,aJ,gy,aV,af,U,aj,bU,af,e4,aj,bp,g3]
   exact sA
 have glw:∀ {Q E},wp (cK (.ref lw) (.int (d:Int))) Q E G=Q (.int o) G:=bL (FU.at qY (by exact jh (mi))) (by erw[cg,VI];rfl);unfold d6;simp only[aa,ae,az,ax,ag,aL,ah,af,aq,ak,am,aj,aA,dB,aI,bU,aS];refine Ov rfl rfl ?_;simp only[aA,ah,aV,af,aq,ak,am,aj,bU,bp,glw,ai,ao,aB];rwa[c90 tr hw.wf K3,bf k3];have eC:=FU.trans k3.of;have t3:=k3.bM t2;have ZU:=tr.kp k3 (λ _ _ _ z=>bQ (z));generalize hb:cZ (f.map (·.1.ch)) (cn gs d) o=Tf;induction Tf with
 |none=>
  have fC:∀ {Q E},wp (bz .Is (hG none) .none) Q E bf=Q (.bool true) bf:=gt rfl;have H:c8 ev f (cn gs d) o=(.error ce,f.flatMap (·.1.marks)):=by unfold c8;exact aU hb rfl
  simp only[aX,aO,aN,aa,ae,bv,aI,af,aq,ak,am,aj,bU,ag,aS,fC,aQ,c7,aT,br,aF,aG];exact hE _ bf (by exact aU H rfl) (by exact aU H t3) eC
 |some b=>
  have fC:∀ {Q E},wp (bz .Is (du b) .none) Q E bf=Q (.bool false) bf:=gt rfl;have e1:hG (some b)=du b:=rfl;have gz0:∀ {Q E} {s:St},wp (cK (du b) (.int 0)) Q E s=Q (.int b.1) s:=cN;have gz1:∀ {Q E} {s:St},wp (cK (du b) (.int 1)) Q E s=Q (.int b.2) s:=eP;obtain ⟨Sb,JC⟩:∃Sb,Sb=decide (24<b.2 - b.1+1):=⟨_,rfl⟩;simp only[e1,aX,aO,aN,aa,ae,bv,aI,af,aq,ak,am,aj,bU,ag,aS,fC,aJ,c7,aM,bG,aV,bp,gz1,gz0,cz,gu,dp,n4];refine fM JC ?_;by_cases A:fv b > 24
  ·have:Sb=true:=by erw[JC];refine bq ?_;unfold fv at A;split at A<;> omega
   subst this;have H:c8 ev f (cn gs d) o=(.error se,f.flatMap (·.1.marks)):=by unfold c8;erw[hb];simp only;erw[if_pos A];rfl
   simp only[aQ,c7,ae,aT,ag,br,aF,aG];exact hE _ bf (by exact aU H rfl) (by exact aU H t3) eC
  ·have:Sb=false:=by erw[JC];refine bA ?_;unfold fv at A;split at A<;> omega
   subst this;have Ir:jH b<=24:=by rw[fi]at A;show(b.2 - b.1+1).toNat<=24;exact Hl A
   simp only[aJ,c7,aM,aa,ae,az,ax,ag,aL,ah,af,aq,ak,am,aj,aA,ai,ao,aB];refine c91 ZU hw.wf K3 (nz b hb) Ir vR (λ q bK a' hr JH k4 EP=>?_) (λ bK hr k4=>?_)
   ·have H:c8 ev f (cn gs d) o=((match (bB ev q (f.map (·.2)) 0 (List.replicate q.length none)).1 with| .error w=>.error w| .ok B=>.ok (b,B)),f.flatMap (·.1.marks)++(bB ev q (f.map (·.2)) 0 (List.replicate q.length none)).2):=by unfold c8;erw[hb];simp only;(erw[if_neg A,hr])<;> rfl
    rwa[aK (jK hr),rl rr];have CI:∀ {Q E},wp (bz .Is (.ref a') .none) Q E bK=Q (.bool false) bK:=gt rfl;rw[H]at mj hE hQ;simp only at mj hE hQ;simp only[aX,aO,aN,aa,ae,bv,aI,af,aq,ak,am,aj,bU,ag,aS,CI,aJ,c7,aM,az,bG,bx,ah,aA,ai,ao,b8];rwa[bk (by simp),cI f5 k5 l5];obtain ⟨RN,HC⟩:∃RN,RN=q.length:=⟨_,rfl⟩;have KY:∀ {Q E},wp (iu .len [.ref a']) Q E cI=Q (.int (RN:Int)) cI:=by intro Q E;rw[len_list (k5.bM JH),bo,HC]
    simp only[bU,ax,ag,aL,ah,af,aq,ak,am,aj,aA,ai,ao,aB,aZ,KY,cz]
    rwa[Be f5 (by exact B8) (by exact jI (.l (.t W0) (.c 1000)) [.i W1 (.c 24),.k W2 W1,.k W0 W2] (.l [1,1,1,0,1]) rfl Ir rl HC),dj f6 k6 l6]
    rw [Int.toNat_natCast, HC] at f6
    have X6:=(k4.trans k5).trans k6
    have I4:=eC.trans X6.of
    have Y:=eC.1
    have X4:=k4.1
    simp only[aX,aO,aN,aa,ae]
    erw[hW]
    have HN:=bD JH;refine WT (vs:=vs) (us:=us) (nodes:=f.map (·.2)) (ev:=ev) (VR:=VR) (row:=q) (s₀:=s) (L:=L++f.flatMap (·.1.marks)) (I4.at zf (by exact jh (CY))) (by rw[lC];simp) (by rw[qo];simp) (λ p u hu=>?_) ((k5.trans k6).bM JH) f6 (X6.bM t3) ⟨CY,by exact KO (.n (.k W0 W1)) [.j W0 W2,.i W3 W4,.k W1 (.a W5 (.c 1)),.i W2 W3,.j W4 W5] (.s 0 (.l [0,1,1,1,0,1,1,1]) (.l [0,1,1,1,0,1,1,1])) rfl Uy EP l5 Y HN⟩ ⟨by exact MT Nj EP Y,by exact jI (.n (.k W0 W1)) [.k W1 (.a W2 (.c 1)),.j W0 W2] (.s 0 (.l [0,1,0,1,1]) (.l [0,1,0,1,1])) rfl l5 HN⟩ (by exact KO (.n (.k W0 W1)) [.j W1 W2,.i W3 W4,.k W0 (.a W5 (.c 1)),.i W2 W3,.j W4 W5] (.s 0 (.l [1,0,1,1,0,1,1,1]) (.l [1,0,1,1,0,1,1,1])) rfl Nj EP l5 Y HN) (by rw[bo];exact MS uc) (by exact My Ir rl) EK I4 (by exact Mx EP l5 Y HN) Jj (by rw[List.length_append]at mj ⊢;exact MQ mj)
     (λ B ws pz rh ny kM wQ nQ hH kk=>?_) (λ w' pz ρ Vl hH kk=>?_)
    ·have KS:p<f.length:=by exact fM qo ((cw.mp hu).1)
     rwa[cX (hv p f[p] (bT KS)),v u' e1 e2 _];rw[hu]at e2;obtain rfl:=an (e2);exact⟨v,e1⟩
    ·simp only[aa];exact hQ b B ws pz _ dj.length _ _ _ _ _ _ _ _ _ (by exact KO (.i W0 W1) [.i W2 W3,.k W4 (.a W5 (.c 1)),.k W1 (.a W4 (.c 1)),.i W0 W2,.j W3 W5] (.l [1,1,0,1,0,1,1,1]) rfl EP l5 l6 Y HN) (by rw[kM]) wQ nQ (by rw[← List.append_assoc];exact hH) (I4.gG kk (by simp;exact Mw EP l5 Y HN)) (by exact Mx EP l5 Y HN)
    ·simp only[aF,aG];exact hE w' pz (by rw[Vl]) (by rw[← List.append_assoc];exact hH) (I4.gG kk (by simp;exact Mw EP l5 Y HN))
   ·have H:c8 ev f (cn gs d) o=(.error ce,f.flatMap (·.1.marks)):=by unfold c8;erw[hb];simp only;erw[if_neg A,hr];rfl
    have CI:∀ {Q E},wp (bz .Is .none .none) Q E bK=Q (.bool true) bK:=gt rfl;simp only[aX,aO,aN,aa,ae,bv,aI,af,aq,ak,am,aj,bU,ag,aS,CI,aQ,c7,aT,br,aF,aG];exact hE _ bK (by exact aU H rfl) (by exact aU H (k4.bM t3)) (eC.trans k4.of)
end
noncomputable def mz(lo:Nat)(s:St)(v:V)(d:List Rg)(c:List V):Prop:=∃b a,v=.tup [.ref b,.ref a]/\lo<=b/\lo<=a/\s[b]?= some (.list (d.map du))/\s[a]?= some (.list c)
theorem mz.kp(h:mz lo s v l f)(k:Kp W s s')(a:∀b∈W,b<lo):mz lo s' v l f:=by rwa[cv h,m g e d c j i,-h];exact(fN m g e d c (k.at j (λ z=>by have:=a _ z;exact Hn d this)) (k.at i (λ z=>by have:=a _ z;exact Hn c this)))
theorem mz.low(h:mz lo s v j c)(a:b<=lo):mz b s v j c:=by rwa[dm h,k d e i g f,-h];exact(gj k d e (Hk a i) (Hk a g) f)
noncomputable def wD(lo:Nat)(s:St)(v:V)(r:my):Prop:=mz lo s v [r.1] (bC r.2)/\(∃l:List Int,r.2=l.map some)/\r.2.length=jH r.1/\jH r.1<=24
theorem ZS:GY K7:=⟨λ _ _ _ _ _ _ h _ _=>h,λ _ _ _ _ _ h _=>h,λ lo s v a h=>by erw[show v=.int a from h];rfl⟩
theorem Ud:GY wD:=⟨λ lo p q v a W f k j=>by rwa[aK f,c b,-f];exact⟨c.kp k j,b⟩,λ lo l s v a g i=>by rwa[aK g,c b,-g];exact⟨c.low i,b⟩,λ lo s v a h=>by rwa[aK h,d _];try clear h;rwa[cO d,o m e _,-d];exact aU e rfl⟩
section
variable{n:Nat}{E:Str->St->Prop}{s:St}
theorem Aj{d c b:Nat}{w t:V}{a:List Int}{g:List End}{j:List V}{L:List Int}(ht:Tl s b L)(x:s[c]?= some (.list (a.map .int)))(y:c≠b)(G:a.length<=d+1)(sC:d<=100)
  (A:∀ (p:Nat) (e:End),g[p]?= some e->j[p]?= some (iV w e)) (Y:∀e∈g,0<=e.2):G3 n E cL K7 t d c b s g j:=by
 intro p e u f L' Q' r U k i J O H;have v:=A p e r;rw[U]at v;obtain rfl:=an (v);have B:=Y e (List.mem_of_getElem? r);obtain ⟨N,o⟩:∃N,N=a.length:=⟨_,rfl⟩;have gl:∀ {Q E},wp (iu .len [.ref c]) Q E f=Q (.int (N:Int)) f:=by intro Q E;rw[len_list (k.at x (by exact jh (y))),bo,o]
 have d0:decide ((d:Int)+1< (N:Int))=false:=bA (MP G o);have g1:∀ {Q E},wp (ge (.ref b) 0) Q E f=Q () f:=gK i (.inl rfl);refine(ba (ρ:=[some (iV w e),some (t),some (.int (d:Int)),some (.ref c),some (.ref b),none,none]) (by decide) rfl rfl).mpr ?_;unfold iV;simp only[JR,ae,bv,aI,bG,af,aq,ak,am,aj,bU,ag,cz,dp,ax,aL,ah,aA,ai,ao,aB,aZ,gl,aS,la,d0,aJ,c7,aM,aa,cb,eV,eU,g1,eT,aV,bp,t0,gh];rwa[eZ i (by rw[bo];simpa [cL] using J),h f1 m l1];have l:Tl h b (L'++[e.1]):=by unfold Tl;erw[f1,List.map_append];rfl
 simp only[aP,aa,ae,aT,dB,aI,aV,af,ak,am,aj,bU,ag,bp,mf,aS,ku];by_cases q:e.2<=20
 ·simp only[bq q,aQ,gy,aV,af,ak,am,aj,bU,ag,bp,mf,br,aF,aG];refine H e.2 _ h ?_ rfl l m;unfold cL;erw[if_pos ⟨B,q⟩];rfl
 ·simp only[bA q,aJ,gy,ag,br,aF,aG];refine O ce h ?_ l m;unfold cL;erw[if_neg (λ z=>q z.2)];rfl
theorem Qx{A d o i:Nat}{w z:V}{gs:Option (List Rg)}{low:Int}{los:List Int}{ps:List (eY×End)}{us:List V}{L:List Int}{Q:V->St->Prop}
  (B:Tl s i L) (m:dC (kI w) s i w A ps us) (hw:qP ps) (Ak:∀p∈ps,∀l,p.1=.eG l->l.length<=100) (h0:∀p∈ps,0<=p.2.2) (hg:kv s z gs) (oH:∀a,z=.ref a->a≠i) (qp:∀l,gs=some l->d<l.length) (rp:∀l,gs=some l->∀g∈l,cE g.1/\cE g.2) (qm:cE low)
  (r:s[o]?= some (.list (los.map .int))) (t:o≠i) (VI:los[d]?= some low) (O:los.length=d+1) (H:d<=100)
  (mj:L.length+(c8 cL ps (cn gs d) low).2.length<=1000000)
  (hE:∀w f,(c8 cL ps (cn gs d) low).1=.error w->Tl f i (L++(c8 cL ps (cn gs d) low).2)->Kp [i] s f->Q (.str w) f)
  (hQ:∀b h v f,(c8 cL ps (cn gs d) low).1=.ok (b,h)->mz s.length f v [b] (bC h)->Tl f i (L++(c8 cL ps (cn gs d) low).2)->Kp [i] s f->Q v f):
  pc (n+64) (.fn 92) [.ref A,z,.int (d:Int),.ref o,.ref i] Q E s:=by
 refine Qy (VR:=K7) B m hw Ak hg oH qp rp qm r t VI H ZS (Aj (w:=w) B r t (MN O) H (λ p e j=>?_) (λ e j=>?_)) mj hE λ b h U f a' lo x5 x6 x7 x8 x9 fQ AS rh ny F5 G Y nQ hH k al=>?_
 ·rwa[fh m,vs _ _ _ _ hv,-m];rw[cg]at j;generalize y:ps[p]?= Te;induction Te with
  |none=>rw[y]at j;exact aD (j)
  |some q=>
   rw[y]at j;obtain rfl:=an (j);rwa[cv (hv p q y),v u _ e2 _ _ e5]
   erw[e2,show u=iV w q.2 from e5];rfl
 ·rwa[ac (List.mem_map.mp j),p m bw];subst bw;exact h0 p m
 ·obtain ⟨N,J⟩:∃N,N=los.length:=⟨_,rfl⟩;have gl:∀ {Q E},wp (iu .len [.ref o]) Q E f=Q (.int (N:Int)) f:=by intro Q E;rw[len_list (k.at r (by exact jh (t))),bo,J]
  have d0:∀ {Q E},wp (bz .Eq (.int ((d:Int)+1)) (.int (N:Int))) Q E f=Q (.bool true) f:=iM (by erw[AF];congr 1;exact bq (MM O J));have kM:U=bC h:=by rwa[ac (fT G),l b7 _];subst b7;exact wK nQ
  obtain ⟨R,hR⟩:∃R:List S,R=nK.drop 1:=⟨_,rfl⟩
  erw[show nK=.ez (.c .Eq (.b .Add (.v 2) (.k (.int 1))) (.call (.k (.bi .len)) [(.v 3)])) [.ret (some (.tup [(.l [(.v 11)]),(.v 13)]))] []::R from by rw[hR];rfl]
  unfold d6;simp only[ae,bv,aI,bG,af,aq,ak,am,aj,bU,ag,cz,dp,ax,aL,ah,aA,ai,ao,aB,aZ,gl,aS,d0,aQ,c7,aT,bX,bx,b8];rwa[bk (by simp),ay f1 x l1];simp only[aA,ah,af,aq,ak,am,aj,ai,ao,cJ,br,aF,aG];have kl:=k.1;exact hQ b h _ ay G (fN _ _ rfl kl al f1 (by erw[x.bM Y,kM];rfl)) (x.bM hH) (k.trans x.of)
theorem CU{m d t:Nat}{w A:V}{gs:Option (List Rg)}{l0 x:Int}{e:List (eY×List (eY×End))}{r:List V}{L:List Int}
  (ht:Tl s d L) (f:dC (ju w d t) s d w 0 e r∨∀ (i:Nat) (p:eY×List (eY×End)),e[i]?= some p->∃u,r[i]?= some u/\ju w d t s u p.2) (hw:∀p∈e,qP p.2) (Ak:∀p∈e,∀q∈p.2,∀l,q.1=.eG l->l.length<=100) (h0:∀p∈e,∀q∈p.2,0<=q.2.2)
  (hg:kv s A gs) (oH:∀a,A=.ref a->a≠d) (qp:∀l,gs=some l->l.length=2) (rp:∀l,gs=some l->∀g∈l,cE g.1/\cE g.2) (qm:cE x)
  (qY:s[m]?= some (.list ([l0,x].map .int))) (U:m≠d):G3 (n+9) E (λ p=>c8 cL p (cn gs 1) x) wD A 0 m d s (e.map (·.2)) r:=by
 intro p q u J L' Q' o h2 k zc hL hE hQ;obtain ⟨c,G,hq⟩:∃c,e[p]?= some c/\c.2=q:=by
  rw[cg]at o;generalize z:e[p]?= Td;induction Td with
  |none=>rw[z]at o;exact aD (o)
  |some c=>rw[z]at o;obtain rfl:=an (o);exact(aw c rfl rfl)
 obtain ⟨j,B,XT,ZT,rfl,a5⟩:∃j,r[p]?= some j/\ju w d t s j c.2:=by
  rcases f with f|f
  ·rwa[fh f,vs _ _ _ _ hv,-f];exact cv (hv p c G) λ v' j _ B _ _ a3=>(aw j B a3)
  ·exact f p c G
 rw[h2]at B;obtain rfl:=an (B);subst hq;have Xm:=dC.kp (s:=s) (s':=J) (λ _ _ h=>h) a5 k;have O:=List.mem_of_getElem? G;have gl:∀ {Q E},wp (iu .len [.ref m]) Q E J=Q (.int 2) J:=by intro Q E;erw[len_list (k.at qY (by exact jh (U)))];rfl
 have d0:decide ((((0:Nat):Int))+1<2)=true:=rfl;refine(ba (ρ:=[some (.tup [.str "row",.ref t,.int 1,.ref XT]),some (A),some (.int ((0:Nat):Int)),some (.ref m),some (.ref d),none,none]) (by decide) rfl rfl).mpr ?_;simp only[JR,ae,bv,aI,bG,af,aq,ak,am,aj,bU,ag,cz,dp,ax,aL,ah,aA,ai,ao,aB,aZ,gl,aS,la,d0,aQ,c7,aT,aV,bp,mf]
 erw[show((0:Nat):Int)+1=((1:Nat):Int)from rfl]
 refine Qx (gs:=gs) (los:=[l0,x]) (ps:=c.2) zc Xm (hw c O) (Ak c O) (h0 c O) (hg.kp k (λ a z=>by have:=oH a z;exact jh (this))) oH (λ l z=>by erw[qp l z];decide) rp qm (k.at qY (by exact jh (U))) U rfl rfl (by decide) hL (λ w' ay y H Y=>?_) (λ b acc v ay y av H Y=>?_)
 ·simp only[br,aF,aG];exact hE w' ay y H Y
 ·rwa[bR (fT y),l cH lC qo];subst cH;simp only[br,aF,aG];exact hQ _ v ay y (oW av ⟨l,rfl⟩ (by simp [lC]) (by rw[fi]at qo;show(b.2 - b.1+1).toNat<=24;exact Hl qo)) H Y
end
theorem kY(b:Rg):fv b=(jH b:Int):=by rw[fi];rfl
section
variable{n:Nat}{E:Str->St->Prop}{s:St}
theorem GG{f:Env}{a p lo:Nat}{y:List V}{b:List my}{j:Rg}{Q:V->St->Prop}(h1:(f[13]?).getD none=some (.ref a))(h2:(f[16]?).getD none=some (.ref p))(Y:s[a]?= some (.list y))(hi:s[p]?= some (.list [du j]))(O:nu (wD lo) s y (b.map some))(hl:b.length<=100)
  (h:∀d o,d[s.length]?= some (.list o)->(o=[]↔ ∀r∈b,r.1=j)->Kp [] s d->d.length=s.length+1->Q (.ref s.length) d):
  pw ((SS (n+20)).ev f (.comp [none,none,some 16] (.v 1) [((.one 1),(.inl (.v 13)),[(.c .NotEq (.i (.v 1) (.k (.int 0))) (.v 2))])])) Q E s:=by
 erw[fJ]
 have hc:lS f [none,none,some 16]=[none,none,some (.ref p)]:=by show [none,none,(f[16]?).getD none]=_;exact aU h2 rfl
 erw[hc,kb,af,h1,aj,iF,iH]
 have A:y.length=b.length:=by erw[O.1];simp
 refine fB (eO Y ?_);refine en fH (λ i o f d=>d=s/\(∃J,f=[none,J,some (.ref p)])/\(o=[]↔ ∀r∈b.take i,r.1=j)/\o.length<=i) (λ i o f d O1=>by rwa[aK O1,e _,-O1];exact aU e Y) (λ i o v f d U u=>?_) _ 0 [] _ s (by exact Nat.zero_add _) (Nat.zero_le _) (oW rfl ⟨none,rfl⟩ (by simp) (Nat.le_refl _)) λ x d u=>?_
 ·rwa[ul u,bw b7 t w];try clear u;subst bw;rwa[aW b7,J cH];try clear b7;subst cH
  have m7:i<b.length:=by exact fM A ((cw.mp U).1)
  have H:=bT m7;generalize b[i]=r at H;rwa[ac (O.2 i (some r) (by erw[cg,H];rfl)),v' e1 e2];rw[U]at e1;obtain rfl:=an (e1);rwa[aK e2,dy _];try clear e2;rwa[cv dy,bl il eK _ _ hb _];try clear dy;subst eK
  have g1:∀ {Q E},wp (bz .NotEq (.ref bl) (.ref p)) Q E d=Q (.bool (!decide ([r.1]=[j]))) d:=rJ (HG hb hi (by simp));have L:b.take (i+1)=b.take i++[r]:=by erw[List.take_add_one,H];rfl
  obtain ⟨e,G⟩:∃e,e= !decide ([r.1]=[j]):=⟨_,rfl⟩;rw[← G]at g1;simp only[fF,bt,aO,aN,ie,rQ,aI,aV,af,aq,ak,am,aj,bU,ag,bp,cN,aS,g1];by_cases q:r.1=j
  ·have:e=false:=by erw[G,bq (show [r.1]=[j]from by rw[q])];rfl
   subst this;simp only[aJ,yI];refine(oW trivial ⟨_,rfl⟩ ?_ (by rw[List.append_nil];exact iA (.i W0 (.a W1 (.c 1))) [.i W0 W1] (.l [1,1]) rfl w));rw[List.append_nil,t,L]
   constructor
   ·intro m B g;rcases List.mem_append.mp g with g|g
    ·exact m B g
    ·rw[dF]at g;subst g;exact q
   ·intro m B g;exact m B (List.mem_append_left _ g)
  ·have:e=true:=by erw[G,bA (show ¬ [r.1]=[j]from λ z=>q (by simpa using z))];rfl
   subst this;simp only[aQ,fG,jm,af,aq,ak,am,aj,jO];refine(oW trivial ⟨_,rfl⟩ ?_ (by erw[List.length_append];simp only[List.length_singleton];exact iA (.i (.a W0 (.c 1)) (.a W1 (.c 1))) [.i W0 W1] (.l [1,1]) rfl w))
   constructor
   ·intro m;simp at m
   ·intro m;exact absurd (m r (by erw[L];simp)) q
 ·rwa[ul u,fO _ t w];try clear u;subst fO
  rw[List.nil_append]at t w;rw[A,List.take_length]at t;exact bk (jI (.i W0 (.c 1000000)) [.i W1 (.c 100),.k W2 W1,.i W0 W2] (.l [1,1,1,0,1]) rfl hl A w) λ ay f1 k1 l1=>h ay _ f1 t k1 l1
theorem GF{f:Env}{a lo:Nat}{u:List V}{b:List my}{Q:V->St->Prop}(B:(f[13]?).getD none=some (.ref a))(ha:s[a]?= some (.list u))(w:nu (wD lo) s u (b.map some))(hl:b.length<=100)
  (h:∀d,d[s.length]?= some (.list (bC (b.flatMap (·.2))))->Kp [] s d->d.length=s.length+1->Q (.ref s.length) d):
  pw ((SS (n+20)).ev f (.comp [none,none,none] (.v 2) [((.one 1),(.inl (.v 13)),[]),((.one 2),(.inl (.i (.v 1) (.k (.int 1)))),[])])) Q E s:=by
 erw[fJ]
 have hc:lS f [none,none,none]=[none,none,none]:=rfl
 erw[hc,kb,af,B,aj,iF,iH]
 have L:u.length=b.length:=by erw[w.1];simp
 have y:(bC (b.flatMap (·.2))).length<=10000:=by
  have:∀ (l:List my),(∀r∈l,r.2.length<=24)->(l.flatMap (·.2)).length<=24 * l.length:=by
   intro l
   induction l with
   |nil=>intro _;simp
   |cons x l ih=>intro hh;have B:=hh x (.head _);have h2:=ih λ r A=>hh r (.tail _ A);simp only[List.flatMap_cons,List.length_append,List.length_cons];exact jI (.i (.a W0 W1) (.m 24 (.a W2 (.c 1)))) [.i W0 (.c 24),.i W1 (.m 24 W2)] (.l [1,1,1]) rfl B h2
  unfold bC;rw[bo];have:=this b λ r A=>by obtain ⟨i,hi,rfl⟩:=List.getElem_of_mem A;rwa[ac (w.2 i (some b[i]) (by rw[cg,bT hi];rfl)),v _ z];rwa[ul z,_ _ z1 z2,-z];exact iA (.i W0 (.c 24)) [.k W0 W1,.i W1 (.c 24)] (.l [1,1,0,1]) rfl z1 z2
  exact iA (.i W0 (.c 10000)) [.i W1 (.c 100),.i W0 (.m 24 W1)] (.l [1,24,1]) rfl hl this
 refine fB (eO ha ?_);refine en fH (λ i o f d=>d=s/\(∃J g,f=[none,J,g])/\o=bC ((b.take i).flatMap (·.2))) (λ i o f d O0=>by rwa[aK O0,e _,-O0];exact aU e ha) (λ i o v f d hv t=>?_) _ 0 [] _ s (by exact Nat.zero_add _) (Nat.zero_le _) (bN rfl (im none none rfl) (by simp [bC])) λ x d t=>?_
 ·rwa[cA t,ip iB d8];try clear t;subst ip;rwa[d9 iB,J g fu];try clear iB;subst fu;subst d8
  have y:i<b.length:=by exact fM L ((cw.mp hv).1)
  have H:=bT y;generalize b[i]=r at H;rwa[ac (w.2 i (some r) (by erw[cg,H];rfl)),v' e1 e2];rw[hv]at e1;obtain rfl:=an (e1);rwa[aK e2,fZ _];try clear e2;rwa[cv fZ,bl il gm _ _ _ O];try clear fZ;subst gm
  have tk:bC ((b.take (i+1)).flatMap (·.2))=bC ((b.take i).flatMap (·.2))++bC r.2:=by erw[List.take_add_one,H];simp [bC]
  simp only[fF,bt,aO,aN,ie,eJ,fG,zo,kb,aV,af,aq,ak,am,aj,bU,ag,bp,eP,iF,Hu];refine eO O (en fH (λ j o f G=>G=d/\(∃g,f=[none,some (.tup [.ref bl,.ref il]),g])/\o=(bC r.2).take j) (λ i o f d OZ=>by rwa[aK OZ,e _,-OZ];exact aU e O) (λ j o v f G ub q=>?_) _ 0 [] _ d (by exact Nat.zero_add _) (Nat.zero_le _) (bN rfl ⟨g,rfl⟩ rfl) λ x G q=>?_)
  ·rwa[cA q,iJ Y jl];try clear q;subst iJ;rwa[aW Y,g kt];try clear Y;subst kt;subst jl
   simp only[fF,bt,aO,aN,ie,eJ,fG,jm,af,aq,ak,am,aj,jO];refine(bN trivial ⟨_,rfl⟩ ?_)
   erw[List.take_add_one,ub];rfl
  ·rwa[cA q,mn U p];try clear q;subst mn;rwa[aW U,g CT,-U]
   rw[List.nil_append,List.take_length]at p
   erw[p,CT]
   exact(bN rfl (im _ _ rfl) tk.symm)
 ·rwa[cA t,oZ _ p];try clear t;subst oZ
  rw[List.nil_append,L,List.take_length]at p
  erw[m3,p]
  exact bk (mF (.i W0 (.c 1000000)) [.i W0 (.c 10000)] (.l [1,1]) rfl y) h
end
theorem Do{a:List my}{m:Nat}(h:∀r∈a,r.2.length=m):(a.flatMap (·.2)).length=a.length * m:=by
 induction a with
 |nil=>simp
 |cons r a b=>rw[List.flatMap_cons,List.length_append,b λ r c=>h r (.tail _ c),h r (.head _),List.length_cons,Nat.add_mul,Nat.one_mul,Nat.add_comm]
section
variable{n:Nat}{E:Str->St->Prop}{s:St}
theorem Bq{pa lw lg a J lo:Nat}{gv:V}{x5 x6 x7 x8 x9 fQ AS rh ny:Option V}{j:List V}{rows:List my}{b i1:Rg}{Q:V->St->Prop}(Y:s[a]?= some (.list j))(U:s[J]?= some (.list [du i1]))(m:nu (wD lo) s j (rows.map some))(O:rows.length<=100)
  (hE:∀d,(∃r∈rows,r.1≠i1)->Kp [] s d->Q (.str ce) d)
  (hQ:∀d v,(∀r∈rows,r.1=i1)->mz s.length d v [b,i1] (bC (rows.flatMap (·.2)))->Kp [] s d->Q v d):
  px (n+40) [.ez (.c .NotEq (.comp [none,none,some 16] (.v 1) [((.one 1),(.inl (.v 13)),[(.c .NotEq (.i (.v 1) (.k (.int 0))) (.v 2))])]) (.l [])) [.ret (some (.k (.str "constraint_error")))] [],
   .ret (some (.tup [(.b .Add (.l [(.v 11)]) (.v 16)),(.comp [none,none,none] (.v 2) [((.one 1),(.inl (.v 13)),[]),((.one 2),(.inl (.i (.v 1) (.k (.int 1)))),[])])]))]
   (d6 pa gv 0 lw lg x5 x6 x7 x8 x9 fQ (some (du b)) AS (some (.ref a)) rh ny (some (.ref J))) (ko Q) E s:=by
 obtain ⟨R,hR⟩:∃R:List S,R=[.ret (some (.tup [(.b .Add (.l [(.v 11)]) (.v 16)),(.comp [none,none,none] (.v 2) [((.one 1),(.inl (.v 13)),[]),((.one 2),(.inl (.i (.v 1) (.k (.int 1)))),[])])]))]:=⟨_,rfl⟩;refine fM hR ?_
 erw[ae,bv,aI]
 rw[show SS (n+38)=SS (n+18+20)from rfl];rwa[GG rfl rfl Y U m O,ay o f1 L H y];simp only[bU,bx,ai,b8];rwa[bk (by simp),t f2 G w];obtain ⟨e,p⟩:∃e,e= !decide (o=[]):=⟨_,rfl⟩;have g1:∀ {Q E},wp (bz .NotEq (.ref s.length) (.ref ay.length)) Q E t=Q (.bool e) t:=by exact aU p (rJ (sJ (G.bM f1) f2))
 have f:=H.trans G;simp only[aS,g1];by_cases q:o=[]
 ·have:e=false:=by erw[p,bq q];rfl
  subst this;have Ar:=L.mp q;simp only[aJ,c7,aM,aa]
  erw[hR,ae,aT,bX,ah]
  unfold d6;simp only[bG,bx,ah,af,aq,ak,am,aj,aA,ai,ao,b8];rwa[bk (by simp),bf f3 B u];rwa[sV f3 (B.bM (f.bM U)) (by simp),bK f4 k4 l4];simp only[aA,ah];have U6:=B.trans k4;have g:=f.trans U6;have Wi:nu (wD lo) bK j (rows.map some):=⟨m.1,λ k x hk=>by
   rwa[ac (m.2 k x hk),v e1 e2];refine(aw v e1 ?_)
   induction x with
   |none=>exact e2
   |some r=>exact Ud.kp _ _ _ _ _ _ e2 g (λ b h=>bQ (h))⟩
  erw[show SS (n+38)=SS (n+18+20)from rfl]
  rwa[GF rfl (g.bM Y) Wi O,cI f5 A l5];simp only[aA,ai,ao,cJ,br,aF,aG];have X2:=H.1;have l12:=f.1;have l04:=g.1;exact hQ cI _ Ar (fN _ _ rfl (wO (.i W0 W1) [.k W2 (.a W0 (.c 1)),.k W3 (.a W2 (.c 1)),.k W1 (.a W3 (.c 1))] (.l [1,0,1,0,1,0,1]) rfl y w u) (Fx (.i W0 W1) [.k W2 (.a W0 (.c 1)),.k W3 (.a W2 (.c 1)),.k W4 (.a W3 (.c 1)),.k W1 (.a W4 (.c 1))] (.l [1,0,1,0,1,0,1,0,1]) rfl y w u l4) (by erw[A.bM f4];rfl) f5) (g.trans A)
 ·have:e=true:=by erw[p,bA q];rfl
  subst this;simp only[aQ,c7,ae,aT,ag,br,aF,aG];refine hE t ?_ f;refine Classical.byContradiction λ z=>q (L.mpr λ r hr=>?_);exact Classical.byContradiction λ z2=>z (aw r hr z2)
theorem WW{pa lw B t:Nat}{w gv:V}{gs:Option (List Rg)}{l0 h0 l1 h1:Int}{A:List (eY×List (eY×End))}{us:List V}{L:List Int}{Q:V->St->Prop}
  (ht:Tl s B L) (hp:dC (ju w B t) s B w pa A us) (hw:qP A) (Ai:∀p∈A,qP p.2) (Ak:∀p∈A,∀l,p.1=.eG l->l.length<=100) (Vv:∀p∈A,∀q∈p.2,∀l,q.1=.eG l->l.length<=100) (hz:∀p∈A,∀q∈p.2,0<=q.2.2)
  (hg:kv s gv gs) (oH:∀a,gv=.ref a->a≠B) (qp:∀l,gs=some l->l.length=2) (rp:∀l,gs=some l->∀g∈l,cE g.1/\cE g.2) (C3:cE l0) (lC:cE l1)
  (qY:s[lw]?= some (.list ([l0,l1].map .int))) (mi:lw≠B)
  (mj:L.length+(dN A gs [(l0,h0),(l1,h1)] l0 l1).2.length<=1000000)
  (hE:∀w m,(dN A gs [(l0,h0),(l1,h1)] l0 l1).1=.error w->Tl m B (L++(dN A gs [(l0,h0),(l1,h1)] l0 l1).2)->Kp [B] s m->Q (.str w) m)
  (hQ:∀x v m,(dN A gs [(l0,h0),(l1,h1)] l0 l1).1=.ok x->mz s.length m v x.1 (bC x.2)->(x.2.length:Int)=cV x.1 1->x.2.length<=1000->Tl m B (L++(dN A gs [(l0,h0),(l1,h1)] l0 l1).2)->Kp [B] s m->Q v m):
  pc (n+73) (.fn 92) [.ref pa,gv,.int ((0:Nat):Int),.ref lw,.ref B] Q E s:=by
 refine Qy (n:=n+9) (d:=0) (VR:=wD) (ev:=λ p=>c8 cL p (cn gs 1) l1) ht hp hw Ak hg oH (λ l z=>by erw[qp l z];decide) rp C3 qY mi rfl (by decide) Ud
  (CU (t:=t) (w:=w) ht (.inr λ i p hi=>?_) Ai Vv hz hg oH qp rp lC qY mi) mj (λ w' m y t1 k=>hE w' m (by unfold dN;exact aU y rfl) t1 k) λ b acc ws m a' lo x5 x6 x7 x8 x9 fQ AS rh ny F5 y wQ nQ hH k al=>?_
 ·rwa[fh hp,vs _ _ _ _ hv,-hp];exact cv (hv i p hi) λ v u _ e2 _ _ e5=>(aw u e2 e5)
 ·rwa[bR (fT y),f bw Yr Og];subst bw;have nb:jH b<=24:=by rw[fi]at Og;show(b.2 - b.1+1).toNat<=24;exact Hl Og
  have Vu:=Yr;have Y:(dN A gs [(l0,h0),(l1,h1)] l0 l1).1=if f=[]then .ok (b::ft gs [(l0,h0),(l1,h1)] 0,[])else match lK b f with|none=>.error ce|some x=>.ok x:=by
   unfold dN
   erw[y]
   simp only[List.map_eq_nil_iff,List.filterMap_map];have:List.filterMap (id∘some) f=f:=by
    have:(id∘some:my->Option my)=some:=rfl
    erw[this,List.filterMap_some];rfl
   (erw[this])<;> rfl
  obtain ⟨R,hR⟩:∃R:List S,R=[.ez (.c .NotEq (.comp [none,none,some 16] (.v 1) [((.one 1),(.inl (.v 13)),[(.c .NotEq (.i (.v 1) (.k (.int 0))) (.v 2))])]) (.l [])) [.ret (some (.k (.str "constraint_error")))] [],
   .ret (some (.tup [(.b .Add (.l [(.v 11)]) (.v 16)),(.comp [none,none,none] (.v 2) [((.one 1),(.inl (.v 13)),[]),((.one 2),(.inl (.i (.v 1) (.k (.int 1)))),[])])]))]:=⟨_,rfl⟩
  rw[show nK=.ez (.c .Eq (.b .Add (.v 2) (.k (.int 1))) (.call (.k (.bi .len)) [(.v 3)])) [.ret (some (.tup [(.l [(.v 11)]),(.v 13)]))] []::
   .a (.one 16) (.ite (.c .NotEq (.v 13) (.l [])) (.i (.i (.v 13) (.k (.int 0))) (.k (.int 0))) (.ite (.c .Is (.v 1) (.k .none)) (.l [(.tup [(.k (.int 1)),(.k (.int 0))])]) (.l [(.i (.v 1) (.b .Add (.v 2) (.k (.int 1))))])))::R from by exact aU hR rfl]
  have wl:ws.length=f.length:=by erw[nQ.1];simp
  have gl:∀ {Q E},wp (iu .len [.ref lw]) Q E m=Q (.int 2) m:=by intro Q E;erw[len_list (k.at qY (by exact jh (mi)))];rfl
  have d0:∀ {Q E},wp (bz .Eq (.int (((0:Nat):Int)+1)) (.int 2)) Q E m=Q (.bool false) m:=iM rfl;have QQ:∀ {J:St},Kp [] m J->nu (wD lo) J ws (f.map some):=λ G=>⟨nQ.1,λ k x hk=>by
   rwa[ac (nQ.2 k x hk),v e1 e2];refine(aw v e1 ?_)
   induction x with
   |none=>exact e2
   |some r=>exact Ud.kp _ _ _ _ _ _ e2 G (λ b h=>bQ (h))⟩
  have sl:=k.1;unfold d6;simp only[ae,bv,aI,bG,af,aq,ak,am,aj,bU,ag,cz,dp,ax,aL,ah,aA,ai,ao,aB,aZ,gl,aS,d0,aJ,c7,aM,aa,az,dB,bx,b8];rwa[bk (by simp),H f1 O X2];obtain ⟨e,he⟩:∃e,e= !decide (ws=[]):=⟨_,rfl⟩;have g1:∀ {Q E},wp (bz .NotEq (.ref a') (.ref m.length)) Q E H=Q (.bool e) H:=by exact aU he (rJ (sJ (O.bM wQ) f1))
  have KP:=k.trans O.of;simp only[aS,g1]
  induction f with
  |nil=>
   have Ji:=List.eq_nil_of_length_eq_zero wl;have:e=false:=by erw[he,Ji];rfl
   subst this;rw[if_pos rfl]at Y;have cT:∀ (J:St) (ib:Nat) (i1:Rg),Kp [] H J->J[ib]?= some (.list [du i1])->ft gs [(l0,h0),(l1,h1)] 0=[i1]->px (n+73) R (d6 pa gv 0 lw B x5 x6 x7 x8 x9 fQ (some (du b)) AS (some (.ref a')) rh ny (some (.ref ib))) (ko Q) E J:=by
    intro J ib i1 G hib wS
    erw[hR]
    refine Bq (n:=n+33) (rows:=[]) ((O.trans G).bM wQ) hib (QQ (O.trans G)) (by simp) (λ bf z U=>?_) (λ bf v _ lv U=>?_)
    ·rwa[ac z,r y _,-z];exact bQ (y)
    ·rw[wS]at Y;have X8:=(KP.trans G.of).1;refine hQ _ v bf Y (lv.low X8) ?_ (by simp) (U.bM (G.bM (O.bM hH))) ((KP.trans G.of).trans U.of);have e0:fv b=0:=by rw[kY,← Vu];rfl
     show((0:Nat):Int)=cV [b,i1] 1;unfold cV cV cV
     erw[e0];simp
   simp only[aJ,gy,dB,aI,af,aq,ak,am,aj,bU,ag,aS]
   induction gs with
   |none=>have eg':=hg;subst eg';have fC:∀ {Q E},wp (bz .Is .none .none) Q E H=Q (.bool true) H:=gt rfl;simp only[fC,aQ,gy,bx,ah,bX,ag,aA,ai,ao,cJ,b8];rwa[bk (by simp),J f2 G l2];simp only[aX,aO,aN,aa];exact cT J _ (1,0) G f2 rfl
   |some l=>rwa[ac (id hg),ga b7 vU];subst b7;have h2:=qp l rfl;rwa[d9 (Bh h2),g0 RY NX,NX];have fC:∀ {Q E},wp (bz .Is (.ref ga) .none) Q E H=Q (.bool false) H:=gt rfl;have g3:∀ {Q E},wp (cK (.ref ga) (.int (((0:Nat):Int)+1))) Q E H=Q (du RY) H:=bL (j:=1) (KP.at vU (by exact jh (oH ga rfl))) rfl;simp only[fC,aJ,gy,bx,ah,aV,af,aq,ak,am,aj,bU,bG,ag,cz,dp,bp,g3,aA,ai,ao,b8];rwa[bk (by simp),J f2 G l2];simp only[aX,aO,aN,aa];exact cT J _ RY G f2 rfl
  |cons o rs=>
   have Ji:ws≠ []:=by intro z;rw[z]at wl;simp at wl
   have:e=true:=by erw[he,bA Ji];rfl
   subst this;rw[if_neg (by simp)]at Y;have ye:=QQ O;rwa[ac (ye.2 0 (some o) rfl),v0 e1 cH];rwa[aK cH,dy hr2];try clear cH;rwa[cv dy,Sa Yg eK b1 b2 hb0 RI];try clear dy;subst eK
   have g2:∀ {Q E},wp (cK (.ref a') (.int 0)) Q E H=Q (.tup [.ref Sa,.ref Yg]) H:=bL (j:=0) (O.bM wQ) e1;simp only[aQ,gy,aV,af,aq,ak,am,aj,bU,ag,bp,g2,cN,aX,aO,aN,aa]
   erw[hR]
   refine Bq (n:=n+33) (rows:=o::rs) (i1:=o.1) (O.bM wQ) hb0 ye (My nb Yr) (λ bf z U=>?_) (λ bf v Ar lv U=>?_)
   ·have ej:lK b (o::rs)=none:=by rw[jP,if_neg];intro hh;rw[List.all_eq_true]at hh;rwa[ac z,r y iI,-z];exact iI (by simpa using hh r y)
    rw[ej]at Y;exact hE ce bf Y (U.bM (O.bM hH)) (KP.trans U.of)
   ·have ej:lK b (o::rs)=some ([b,o.1],(o::rs).flatMap (·.2)):=by rw[jP,if_pos];rw[List.all_eq_true];intro r y;exact bq (Ar r y)
    rw[ej]at Y;have Uv:∀r∈ (o::rs),r.2.length=jH o.1:=λ r y=>by
     obtain ⟨i,hi,rfl⟩:=List.getElem_of_mem y;rwa[ac (nQ.2 i (some (o::rs)[i]) (by erw[cg,bT hi];rfl)),v _ z];rwa[ul z,_ _ z1 z2,-z]
     erw[z1,Ar _ y];rfl
    have fl:=Do Uv;have k1l:=KP.1;refine hQ _ v bf Y (lv.low k1l) ?_ ?_ (U.bM (O.bM hH)) (KP.trans U.of)
    ·show(((o::rs).flatMap (·.2)).length:Int)=cV [b,o.1] 1
     erw[fl,Vu]
     unfold cV cV cV;rw[kY,kY,Int.one_mul];exact Int.natCast_mul _ _
    ·show((o::rs).flatMap (·.2)).length<=1000
     erw[fl,Vu]
     have:jH b * jH o.1<=24 * 24:=Nat.mul_le_mul nb hr2.2.2;exact mF (.i W0 (.c 1000)) [.i W0 (.c 576)] (.l [1,1]) rfl this
end
theorem vK:∀ {a rs:List Rg} {j:Nat} {b r:Rg},a.length=rs.length->a[j]?= some b->rs[j]?= some r->inR b r=false->gi a rs=false
 | [],_,_,_,_,_,h,_,_=>aD (h)
 |_::_,[],_,_,_,h,_,_,_=>by simp at h
 |g::a,e::rs,0,b,r,_,d,c,h=>by obtain rfl:=an (d);obtain rfl:=an (c);simp [gi,h]
 |g::a,e::rs,j+1,b,r,f,d,c,h=>by simp only[gi,Bool.and_eq_false_iff];exact .inr (vK (by simpa using f) d c h)
theorem sx:∀ {a rs:List Rg},a.length=rs.length->(∀ (j:Nat) (b r:Rg),a[j]?= some b->rs[j]?= some r->inR b r=true)->gi a rs=true
 | [],[],_,_=>rfl
 | [],_::_,h,_=>by simp at h
 |_::_,[],h,_=>by simp at h
 |g::a,c::rs,e,h=>by simp only[gi,Bool.and_eq_true];exact⟨h 0 g c rfl rfl,sx (by simpa using e) λ j b r f d=>h (j+1) b r f d⟩
section
variable{n:Nat}{E:Str->St->Prop}{s:St}
theorem Zq(qY:s[o]?= some (.list ((rs.map (·.1)).map .int)))(RJ:s[H]?= some (.list ((rs.map (·.2)).map .int)))(hn:o≠f/\H≠f)(Ak:rs.length<=2)
  (KW:∀x,R.1=.ok x->x.1.length=rs.length)
  (h92:∀ (Q':V->St->Prop),(∀w d,R.1=.error w->Tl d f (L++R.2)->Kp [f] s d->Q' (.str w) d)->(∀x v d,R.1=.ok x->mz s.length d v x.1 (bC x.2)->(x.2.length:Int)=cV x.1 1->x.2.length<=1000->Tl d f (L++R.2)->Kp [f] s d->Q' v d)->pc (n+73) (.fn 92) [.ref pa,gv,.int ((0:Nat):Int),.ref o,.ref f] Q' E s)
  (hE:∀w d,(ii R rs).1=.error w->Tl d f (L++R.2)->Kp [f] s d->Q (.str w) d)
  (hQ:∀x v d,(ii R rs).1=.ok x->mz s.length d v x.1 (bC x.2)->x.2.length<=24->x.1.length<=2->Tl d f (L++R.2)->Kp [f] s d->Q v d):
  pc (n+75) (.fn 94) [.ref pa,gv,.ref o,.ref H,.ref f] Q E s:=by
 refine(ba (ρ:=[some (.ref pa),some (gv),some (.ref o),some (.ref H),some (.ref f),none,none,none,none,none,none,none,none,none]) (by decide) rfl rfl).mpr ?_
 erw[show Ay.body=.a (.one 5) (.call (.k (.fn 92)) [(.v 0),(.v 1),(.k (.int 0)),(.v 2),(.v 4)])::Ay.body.drop 1 from rfl]
 obtain ⟨RS,Wk⟩:∃RS:List S,RS=Ay.body.drop 1:=⟨_,rfl⟩;refine fM Wk ?_;simp only[ae,az,ax,ag,aL,ah,af,ak,am,aj,aA,aq,ai,ao,aB];refine h92 _ (λ w d G A k=>?_) (λ x v d G lv dT oX A k=>?_)
 ·have g1:∀ {Q E},wp (iu .isinstance [.str w,.bi .nF]) Q E d=Q (.bool true) d:=bJ rfl
  erw[Wk]
  unfold Ay;simp only[List.drop_succ_cons,List.drop_zero,aX,aO,aN,aa,ae,bv,ax,ag,aL,ah,af,aq,ak,am,aj,aA,ai,ao,aB,aZ,g1,aQ,c7,aT,br,aF,aG];exact hE w d (by unfold ii;exact aU G rfl) A k
 ·have u:=KW x G;rwa[cv (id lv),bl il bw y1 y2 y3 y4];subst bw;have g1:∀ {Q E},wp (iu .isinstance [.tup [.ref bl,.ref il],.bi .nF]) Q E d=Q (.bool false) d:=bJ rfl;obtain ⟨N,Y⟩:∃N,N=rs.length:=⟨_,rfl⟩;have Oj:=k.at qY (by exact jh (hn.1));have VS:=k.at RJ (by exact jh (hn.2));have gl:∀ {Q E},wp (iu .len [.ref o]) Q E d=Q (.int (N:Int)) d:=by intro Q E;rw[len_list Oj,bo,bo,Y]
  erw[Wk]
  unfold Ay;simp only[List.drop_succ_cons,List.drop_zero,aX,aO,aN,aa,ae,bv,ax,ag,aL,ah,af,aq,ak,am,aj,aA,ai,ao,aB,aZ,g1,aJ,c7,aM]
  skip
  refine f0 ?_;simp only[dJ,ax,ag,aL,ah,af,aq,ak,am,aj,aA,ai,ao,aB,aZ,gl,gf,cr (show -1000000<= (0:Int)by decide) (by decide),cr (show -1000000<= (N:Int)by exact B7) (iA (.l (.t W0) (.c 1000000)) [.i W1 (.c 2),.k W0 W1] (.l [1,1,1]) rfl Ak Y),cP,iG];refine eM (xs:=di 0 (N:Int)) (λ j ρ e=>e=d/\(∀ (i:Nat) (b r:Rg),i<j->x.1[i]?= some b->rs[i]?= some r->inR b r=true)/\∃x6 x7 x8,ρ=[some (.ref pa),some gv,some (.ref o),some (.ref H),some (.ref f),some (.tup [.ref bl,.ref il]),x6,x7,x8,none,none,none,none,none])
   (λ j xx ρ e hx J A8 ma=>?_) (λ ρ e J=>?_) _ 0 _ d (Nat.zero_add _) (bN rfl (λ i b r h=>by exfalso;exact IJ h) ⟨none,none,none,rfl⟩)
  ·rwa[cA J,b7 U cH];try clear J;subst b7;rwa[kW cH,x6 x7 x8 dy];try clear cH;subst dy
   rwa[aK (cS hx),za hj];rw[Int.zero_add]at za;subst za;have Am:j<rs.length:=by exact EC Y hj
   have y:x.1[j]?= some (x.1[j]'(vA u Am)):=bT (vA u Am);have g:rs[j]?= some rs[j]:=bT Am;generalize x.1[j]'(vA u Am)=b at y;generalize rs[j]=r at g;have e1:∀ {Q E},wp (cK (.ref bl) (.int (j:Int))) Q E e=Q (.tup [.int b.1,.int b.2]) e:=bL y3 (by erw[cg,y];rfl);have e2:∀ {Q E},wp (cK (.ref o) (.int (j:Int))) Q E e=Q (.int r.1) e:=bL Oj (by erw[cg,cg,g];rfl);have e3:∀ {Q E},wp (cK (.ref H) (.int (j:Int))) Q E e=Q (.int r.2) e:=bL VS (by erw[cg,cg,g];rfl);have Pr:inR b r=true->∀ (i:Nat) (b r:Rg),i<j+1->x.1[i]?= some b->rs[i]?= some r->inR b r=true:=λ z i b' r' F8 mG Jq=>by
    by_cases q:i=j
    ·subst q;rw[y]at mG;rw[g]at Jq;obtain rfl:=an (mG);obtain rfl:=an (Jq);exact z
    ·exact U i b' r' (iA (.j W0 W1) [.j W0 (.a W1 (.c 1)),.n (.k W0 W1)] (.s 2 (.l [1,1]) (.l [1,0,1])) rfl F8 q) mG Jq
   have bad:inR b r=false->Q (.str ce) e:=λ z=>hE ce e (by unfold ii;erw[G];simp only;erw[if_pos (vK u y g z)];rfl) A k;simp only[bt,aO,aN,cQ,ae,iE,aV,af,aq,ak,am,aj,bU,ag,bp,cN,e1,qd,bY,vE,aa,bv,dU,aI,aS,ku];by_cases m:b.1<=b.2
   ·by_cases B:b.1<r.1
    ·simp only[bq m,aQ,gy,eD,aI,af,aq,ak,am,aj,bU,aV,bp,e2,aS,la,bq B,tI,cW,c7,ae,aT,ag,br,aF,hV,aG];exact bad (by simp [inR,m,B])
    ·by_cases O:r.2<b.2
     ·simp only[bq m,aQ,gy,eD,aI,af,aq,ak,am,aj,bU,aV,bp,e2,aS,la,bA B,aJ,e3,n4,bq O,cW,c7,ae,aT,ag,br,aF,hV,aG];exact bad (by simp [inR,m,O])
     ·simp only[bq m,aQ,gy,eD,aI,af,aq,ak,am,aj,bU,aV,bp,e2,aS,la,bA B,aJ,e3,n4,bA O,cW,c7,aM,aa,be];exact ma _ _ (bN rfl (Pr (by simp [inR,B,O])) ⟨_,_,_,rfl⟩)
   ·simp only[bA m,aJ,tI,c7,aM,aa,be];exact ma _ _ (bN rfl (Pr (by simp [inR,m])) ⟨_,_,_,rfl⟩)
  ·rwa[cA J,eK U fO];try clear J;subst eK;rwa[kW fO,x6 x7 x8 gU];try clear fO;subst gU
   have eN:(di 0 (N:Int)).length=rs.length:=by rw[bS];exact Hm Y (Mine.L.bO _)
   rw[eN]at U;have wS:=sx u λ j b r y g=>U j b r (cw.mp g).1 y g;obtain ⟨M,hM⟩:∃M,M=x.2.length:=⟨_,rfl⟩;have Ww:∀ {Q E},wp (iu .len [.ref il]) Q E e=Q (.int (M:Int)) e:=by intro Q E;erw[len_list y4,hM];simp [bC]
   have ea:ii R rs=(if cV x.1 1 > 24 then .error se else .ok x,R.2):=by unfold ii;erw[G];simp only;erw[if_neg (by rw[wS];decide)];rfl
   simp only[aa,ae,aT,dB,aI,ax,ag,aL,ah,aV,af,aq,ak,am,aj,bU,bp,eP,aA,ai,ao,aB,aZ,Ww,aS,ku];by_cases q:(M:Int)<=24
   ·simp only[bq q,aQ,gy,af,aq,ak,am,aj,br,aF,aG];exact hQ x _ e (by erw[ea];simp only;erw[if_neg (pW (.n (.p (.c 24) Y0)) [.q (.t W0) Y0,.k W1 W0,.l (.t W1) (.c 24)] (.s 0 (.l [1,0,1,0,1,1]) (.l [1,0,1,0,1,1])) rfl dT hM q)];rfl) lv (iA (.i W0 (.c 24)) [.k W1 W0,.l (.t W1) (.c 24)] (.l [1,0,1,1]) rfl hM q) (MH Ak u) A k
   ·simp only[bA q,aJ,gy,ag,br,aF,aG];exact hE se e (by erw[ea];simp only;erw[if_pos (pW (.p (.c 24) Y0) [.q (.t W0) Y0,.k W1 W0,.n (.l (.t W1) (.c 24))] (.l [1,1,0,1,0,1]) rfl dT hM q)];rfl) A k
end
section
variable{ν:Type}{s:St}
theorem jf.lt(h:jf s w c (.ref a)):a<s.length:=by
 induction c with
 |pos=>exact bZ ri (h) rfl
 |gc=>exact bZ ri (h) rfl
 |eG l=>rwa[ac h,b e d,-h];obtain rfl:=V.ref.inj (e);exact bD d
theorem dC.re(h:dC k s B w j g f)(m:∀u x,k s u x->A s u x)(b:s.length<=told):dC A s told w j g f:=by rwa[fh h,e c q o G n,-h];refine(jk e c q o (by have:=bD c;exact vz b this) (λ i p l=>?_));exact cv (n i p l) λ v u y t d H r=>(fN v u y t d (λ a z=>by subst z;have:=d.lt;exact vz b this) (m _ _ r))
theorem gx.XI(h:gx k s lo w j g f)(m:∀u x,k lo s u x->A s u x)(b:s.length<=told):dC A s told w j g f:=by rwa[fh h,e c q o B n,-h];refine(jk e c q o (by have:=bD c;exact vz b this) (λ i p l=>?_));exact cv (n i p l) λ v u y t d G r=>(fN v u y t d (λ a z=>by subst z;have:=d.lt;exact vz b this) (m _ _ r))
theorem gx.Q6(h:gx (mY w) s lo w c b a)(d:s.length<=told):dC (kI w) s told w c b a:=h.XI (λ _ _ z=>z) d
theorem gx.ZW(h:gx (pP w t) s lo w b f a)(c:s.length<=told):dC (ju w told t) s told w b f a:=
 h.XI (λ u x d=>by rwa[cO d,b a e z,-d];exact(ff b a e (z.Q6 c))) c
theorem dC.Z5(h:dC (ju w g t) s g w b f a)(c:s.length<=told):dC (ju w told t) s told w b f a:=
 h.re (λ u x d=>by rwa[cO d,b a e z,-d];exact(ff b a e (z.re (λ _ _ z=>z) c))) c
theorem A6.eG(h:A6 P d):∀p∈d,∀l,p.1=.eG l->l.length<=2/\∀q∈l,cE q.1.2/\cE q.2.2:=by
 rwa[dm h.at_,l o j f c _];subst j;intro p a r b;rcases List.mem_append.mp a with a|a
 ·rcases c with c|c
  ·rw[c p a]at b;exact bZ eY.ctorIdx (b) rfl
  ·rwa[dR (c p a),k e _ i g];rw[e]at b;cases b;exact⟨i,g⟩
 ·rcases f with rfl|⟨x,rfl⟩
  ·exact bQ (a)
  ·rw[dF]at a;subst a;exact bZ eY.ctorIdx (b) rfl
theorem cE.small(h:cE x):wE x:=by rwa[aK h,_ _,-h];exact⟨by omega,by omega⟩
theorem A6.len(h:A6 P a):a.length<=4:=by
 rwa[dm h.at_,l o c b _ d];subst c
 erw[List.length_append]
 rcases b with rfl|⟨x,rfl⟩<;> simp<;> omega
theorem A6.HV(h:A6 P n):qP n:=by
 have k:=h.eG;have j:=h.len;refine⟨⟨?_⟩,by exact mF (.i W0 (.c 100)) [.i W0 (.c 4)] (.l [1,1]) rfl j,λ p b l e=>by have:=(k p b l e).1;exact Mv this,λ p b l e=>?_⟩
 ·rwa[dm h.at_,l o G u d J];subst G;refine(gj (l.map (·.1.ch)) (o.map (·.1.ch)) (by rw[List.map_append]) ?_ ?_ (by rw[bo];exact mF (.i W0 (.c 100)) [.i W0 (.c 3)] (.l [1,1]) rfl J))
  ·rcases u with rfl|⟨x,rfl⟩
   ·exact .inl rfl
   ·exact .inr rfl
  ·rcases d with d|d
   ·rwa[.inl,c a];rwa[ac (List.mem_map.mp a),p b B];subst B;show p.1.ch=_;erw[d p b];rfl
   ·rwa[.inr,c a];rwa[ac (List.mem_map.mp a),p b y];subst y;rwa[dR (d p b),r e A z m];refine(dP (r.map λ q=>(q.1.2,q.2.2)) (by show p.1.ch=_;rw[e];rfl) (by simpa using A) (by rw[bo];exact Mv z) (λ x g=>?_));rwa[ac (List.mem_map.mp g),q f w];subst w;exact⟨(m q f).1.small,(m q f).2.small⟩
 ·generalize a:p.1=H;induction H with
  |pos=>rw[a]at e;exact bZ Ch.ctorIdx (e) rfl
  |gc=>rw[a]at e;exact bZ Ch.ctorIdx (e) rfl
  |eG t=>
   rw[a]at e;cases e
   intro x g;rwa[ac (List.mem_map.mp g),q f v];subst v;have:=(k p b t a).2 q f;exact⟨this.1.small,this.2.small⟩
theorem A6.marks{P:ν->Prop}{b:List (eY×ν)}(h:A6 P b):(b.flatMap (·.1.marks)).length<=12:=by
 have j:=h.eG;rwa[dm h.at_,l o f t _ u];subst f;have A:o.flatMap (·.1.marks)=[]:=by
  rcases t with rfl|⟨x,rfl⟩
  ·rfl
  ·rfl
 rw[List.flatMap_append,A,List.append_nil];have:∀ (l:List (eY×ν)),(∀p∈l,∀r,p.1=.eG r->r.length<=2)->(l.flatMap (·.1.marks)).length<=4 * l.length:=by
  intro l
  induction l with
  |nil=>intro _;simp
  |cons p l g=>
   intro d;have y:=g λ q k=>d q (.tail _ k);have w:p.1.marks.length<=4:=by
    generalize v:p.1=z;induction z with
    |pos=>simp [eY.marks]
    |gc=>simp [eY.marks]
    |eG r=>rw[jw];have:=d p (.head _) r v;exact mF (.i (.m 2 W0) (.c 4)) [.i W0 (.c 2)] (.l [1,2]) rfl this
   rw[List.flatMap_cons,List.length_append,List.length_cons];exact jI (.i (.a W0 W1) (.m 4 (.a W2 (.c 1)))) [.i W1 (.m 4 W2),.i W0 (.c 4)] (.l [1,1,1]) rfl y w
 have:=this l λ p n r e=>(j p (List.mem_append_left _ n) r e).1;exact iA (.i W0 (.c 12)) [.i W1 (.c 3),.i W0 (.m 4 W1)] (.l [1,4,1]) rfl u this
end
section
variable{ν α:Type}{ev:ν->Except Str α×List Int}
theorem zU(b:List Int)(p:Nat):(cF b p).length=b.countP λ x=>decide (x=(p:Int)):=by
 have:∀j,j<=b.length->((List.range j).filter λ k=>b[k]?== some (p:Int)).length=(b.take j).countP λ x=>decide (x=(p:Int)):=by
  intro j
  induction j with
  |zero=>intro _;rfl
  |succ j d=>
   intro h;have e:b[j]?= some b[j]:=bT (iA (.j W0 W1) [.i (.a W0 (.c 1)) W1] (.l [1,1]) rfl h);rw[pI,List.length_append,d (iA (.i W0 W1) [.i (.a W0 (.c 1)) W1] (.l [1,1]) rfl h),List.take_add_one,e,List.countP_append];by_cases q:b[j]=(p:Int)
   ·erw[if_pos (by rw[q])];simp [q]
   ·erw[if_neg (by simpa using q)];simp [q]
 have:=this b.length (Nat.le_refl _);rw[List.take_length]at this;exact this
theorem uq(b:List Int)(p:Nat):(b.countP λ x=>decide ((p:Int)<=x))=(b.countP λ x=>decide (x=(p:Int)))+b.countP λ x=>decide (((p+1:Nat):Int)<=x):=by
 induction b with
 |nil=>rfl
 |cons x b g=>
  simp only[List.countP_cons,g];by_cases e:x=(p:Int)
  ·have d:(p:Int)<=x:=by exact kJ (.l (.t W0) Y0) [.q Y0 (.t W0)] (.l [1,0,1]) rfl e
   have f: ¬ ((p+1:Nat):Int)<=x:=by exact kJ (.n (.l (.t (.a W0 (.c 1))) Y0)) [.q Y0 (.t W0)] (.s 0 (.l [1,1]) (.l [1,1])) rfl e
   simp only[bq e,bq d,bA f];simp;exact iA (.k (.a (.a W0 W1) (.c 1)) (.a (.a W0 (.c 1)) W1)) [] (.s 0 (.l [1]) (.l [1])) rfl
  ·by_cases d:(p:Int)<=x
   ·have f:((p+1:Nat):Int)<=x:=by exact kJ (.l (.t (.a W0 (.c 1))) Y0) [.n (.q Y0 (.t W0)),.l (.t W0) Y0] (.s 1 (.l [1,0,1]) (.l [1,1])) rfl e d
    simp only[bA e,bq d,bq f];simp;exact iA (.k (.a (.a W0 W1) (.c 1)) (.a W0 (.a W1 (.c 1)))) [] (.s 0 (.l [1]) (.l [1])) rfl
   ·have f: ¬ ((p+1:Nat):Int)<=x:=by exact kJ (.n (.l (.t (.a W0 (.c 1))) Y0)) [.n (.l (.t W0) Y0)] (.s 0 (.l [1,1]) (.l [1,1])) rfl d
    simp only[bA e,bA d,bA f];simp
theorem mO:∀ {nodes:List ν} (_:∀b∈nodes,(ev b).2.length<=m) {p:Nat} {acc:List (Option α)},(bB ev row nodes p acc).2.length<= (row.countP λ x=>decide ((p:Int)<=x)) * m
 | [],_,p,acc=>by simp [bB]
 |b::nodes,g,p,acc=>by
  have e:bB ev row (b::nodes) p acc=(match dO ev b (cF row p) acc with
   |(.error w,l)=>(.error w,l)
   |(.ok c,l)=>((bB ev row nodes (p+1) c).1,l++(bB ev row nodes (p+1) c).2)):=rfl
  have d:=nI (g b (.head _)) (ks:=cF row p) (acc:=acc);rw[zU]at d;rw[e,uq,Nat.add_mul];generalize z:dO ev b (cF row p) acc=k;induction k with
  |mk a f=>
   rw[z]at d;simp only at d
   induction a with
   |error w=>show f.length<=_;exact jI (.i W0 (.a W1 W2)) [.i W0 W1] (.l [1,1]) rfl d
   |ok j=>have:=mO (λ b h=>g b (.tail _ h)) (nodes:=nodes) (p:=p+1) (acc:=j) (row:=row);show(f++_).length<=_;exact aU List.length_append (wO (.i (.a W0 W1) (.a W2 W3)) [.i W0 W2,.i W1 W3] (.l [1,1,1]) rfl d this)
theorem nJ(f:(e.flatMap (·.1.marks)).length<=k)(t:∀p∈e,(ev p.2).2.length<=m):(c8 ev e given o).2.length<=k+24 * m:=by
 unfold c8
 split
 ·show(e.flatMap (·.1.marks)).length<=_;exact IE f
 ·split
  ·show(e.flatMap (·.1.marks)).length<=_;exact IE f
  ·rename_i b _ g
   split
   ·show(e.flatMap (·.1.marks)).length<=_;exact IE f
   ·rename_i d n;rwa[aK (jK n),j _];have y:=mO (ev:=ev) (row:=d) (m:=m) (nodes:=e.map (·.2)) (λ z h=>by rwa[ac (List.mem_map.mp h),p r q];subst q;exact t p r) (p:=0) (acc:=List.replicate d.length none);have w:(d.countP λ x=>decide (((0:Nat):Int)<=x))<=d.length:=List.countP_le_length;have v:d.length<=24:=by erw[j];rw[fi]at g;show(b.2 - b.1+1).toNat<=24;exact Hl g
    have u:(d.countP λ x=>decide (((0:Nat):Int)<=x)) * m<=24 * m:=Nat.mul_le_mul_right _ (iA (.i W0 (.c 24)) [.i W0 W1,.i W1 (.c 24)] (.l [1,1,1]) rfl w v);show(e.flatMap (·.1.marks)++_).length<=_;exact aU List.length_append (Fx (.i (.a W0 W1) (.a W2 (.m 24 W3))) [.i W0 W2,.i W1 W4,.i W4 (.m 24 W3)] (.l [1,1,1,1]) rfl f y u)
end
theorem z8{a:List (eY×End)}{gs:Option (List Rg)}{l0:Int}(h:QR a):(gd a gs l0).2.length<=36:=
 nJ (ev:=cL) (m:=1) (k:=12) h.marks λ p _=>by unfold cL;simp
theorem Au{a:List (eY×List (eY×End))}{gs:Option (List Rg)}{rs:List Rg}{l0 l1:Int}(h:Xn a):(dN a gs rs l0 l1).2.length<=876:=
 nJ (m:=36) (k:=12) h.marks λ p b=>nJ (ev:=cL) (m:=1) (k:=12) (h.AP p b).marks λ q _=>by unfold cL;simp
noncomputable def eI(j i h g f e d c b a o k r p l m q:Option V):Env:=[j,i,h,g,f,e,d,c,b,a,o,k,r,p,l,m,q,none,none,none,none,none,none,none,none,none,none,none,none,none,none]
noncomputable def FI:List S:=[
 .a (.one 1) (.l [(.k (.int 0)),(.v 0)]),
 .a (.m [2,3]) (.call (.k (.fn 84)) []),
 .a (.one 4) (.i (.v 3) (.call (.k (.fn 83)) [(.v 1),(.k (.int 2))])),
 .a (.one 5) (.l [(.k (.int 0))]),
 .a (.one 6) (.call (.k (.fn 87)) [(.v 1),(.v 2),(.v 5),(.v 4),(.k (.int 0))])]
noncomputable def FH:List S:=[
 .a (.one 7) (.k .none),
 .ez (.c .Gt (.call (.k (.fn 83)) [(.v 1),(.k (.int 3))]) (.k (.int 0))) [.a (.one 8) (.b .Sub (.call (.k (.fn 83)) [(.v 1),(.k (.int 5))]) (.k (.int 2))),.a (.one 7) (.l [(.tup [(.v 8),(.b .Sub (.b .Add (.v 8) (.call (.k (.fn 83)) [(.v 1),(.k (.int 5))])) (.k (.int 1)))])]),.ez (.c .Eq (.call (.k (.bi .len)) [(.t (.v 4) 16)]) (.k (.int 2))) [.e (.fY (.v 7) 0 [(.tup [(.k (.int 1)),(.call (.k (.fn 83)) [(.v 1),(.k (.int 5))])])])] []] []]
noncomputable def FG:List S:=[
 .a (.one 9) (.l []),
 .a (.one 10) (.call (.k (.fn 94)) [(.v 6),(.v 7),(.sl (.l [(.neg (.k (.int 2))),(.k (.int 1))]) none (some (.call (.k (.bi .len)) [(.t (.v 4) 16)]))),(.sl (.l [(.k (.int 6)),(.k (.int 4))]) none (some (.call (.k (.bi .len)) [(.t (.v 4) 16)]))),(.v 9)]),
 .a (.one 16) (.l [])]
theorem fP.AY(h:fP s t rs cp w)(a:LW W s)(q:∀ix,lf s t ix->ix∉W)(k:Kp W s m):fP m t rs cp w:=by
 rwa[eW h,g ix o b c G B A y x v u l];try clear h;rwa[cv l,U O f L J e H,-l]
 refine(m5 g ix o (k.at b (a.not b λ _ z=>bZ vm (z) rfl)) c G B A (k.at y (q ix (aw g b c))) x (λ i r p=>?_) u ⟨U,O,k.at f (a.not f λ _ z=>bZ vm (z) rfl),L,J,k.at e (a.not e λ _ z=>bZ vm (z) rfl),H⟩);exact ac (v i r p) λ d e1 j=>ac (id j) λ fd Y _=>(aw d e1 (j.kp k (a.not Y λ _ z=>bZ vm (z) rfl)))
theorem fP.ix(h:fP s t rs p w):∃ix,Ix s t ix rs.length/\∀a,lf s t a->a=ix:=by rwa[DL h,j ix f c b m l k i g _,-h];refine(aw ix (gj j f c b i g) (λ a ⟨o,e,d⟩=>?_));rw[c]at e;obtain rfl:=(d4.inst.inj (an (e))).2;rw[b]at d;obtain rfl:=V.ref.inj (an (d));rfl
theorem fP.ne(h:fP s t rs G w)(g:rs≠ [])(a:s[b]?= some (.list (.int x::l))):∀ix,lf s t ix->ix≠b:=by
 rwa[JZ h,A ix p m k y v u j q i _,-h];intro o ⟨B,f,c⟩ z;rw[m]at f;obtain rfl:=(d4.inst.inj (an (f))).2;rw[k]at c;obtain rfl:=V.ref.inj (an (c));subst z;rw[j]at a;cases a
 induction rs with
 |nil=>exact g rfl
 |cons r rs=>exact ac (i 0 r rfl) λ d e _=>uD ri (e) rfl
noncomputable def Pq(s:St)(t d b lo:Nat)(rs:List Rg):Prop:=
 (∃a c,rs=[(-2,6)]/\gx (mY (.ref b)) s lo (.ref b) d a c/\QR a)∨(∃a c,rs=[(-2,6),(1,4)]/\gx (pP (.ref b) t) s lo (.ref b) d a c/\Xn a)
section
variable{n:Nat}{E:Str->St->Prop}{s:St}{Q:Flow×Env->St->Prop}
theorem Nq
  (h:∀d w x L t u e cp lo b i m rs,lj d w u xs i m->fP d t rs cp x->Ix d t b rs.length->Pq d t e x lo rs->w<lo->u<lo->(b≠w/\b≠u)->(rs=[(-2,6)]∨rs=[(-2,6),(1,4)])->
   px (n+90) R (eI (some (.ke xs)) (some (.ref w)) (some (.ref x)) (some (.ref L)) (some (.ref t)) (some (.ref u)) (some (.ref e)) none none none none none none none none none none) Q E d):
  px (n+90) (FI++R) (eI (some (.ke xs)) none none none none none none none none none none none none none none none none) Q E s:=by
 unfold FI eI;simp only[List.cons_append,List.nil_append];simp only[ae,az,bx,ah,ag,aA,af,ak,am,aj,ai,ao,b8];rwa[bk (by simp),ay f1 k1 l1];simp only[aX,aO,aN,aa,ae,iE,ax,ag,aL,ai,aB];rwa[c84,aH x L v Av cp f2 i1 i2 k2];have A2:=k2.bM f1;simp only[qd,bY,aO,aN,vE,aa,ae,az,aV,af,aq,ak,am,aj,bU,ax,ag,aL,ah,aA,ai,ao,aB];rwa[QA A2 (Int.le_refl _) (by decide),r y r0 r1 JE k3 l3];have ZX:=Hi f2 A2 (λ z=>bZ (λ o=>d4.casesOn o (λ vs=>ri ((vs[0]?).getD .none)) (λ _ _=>0) (λ _=>0) (λ _=>0) (λ _=>0)) z rfl);have f3:=k3.at f2 (by exact jh (ZX));have go:∀t rs,(rs=[(-2,6)]∨rs=[(-2,6),(1,4)])->fP aH t rs cp x->∀ (Q':V->St->Prop),(∀d w u e lo b i m,lj d w u xs i m->w=s.length->u=y.length->fP d t rs cp x->Ix d t b rs.length->Pq d t e x lo rs->w<lo->u<lo->(b≠w/\b≠u)->Q' (.ref e) d)->
   ∀g,g[y.length]?= some (.list [.int 0])->Kp [] y g->g.length=y.length+1->pc (n+88) (.fn 87) [.ref s.length,.ref x,.ref y.length,.ref t,.int ((0:Nat):Int)] Q' E g:=by
  intro t rs t9 Y Q' hq g f4 U O;have iI:rs≠ []:=by rcases t9 with rfl|rfl<;> simp
  have hi3:=Y.AY (.one A2) (λ b f=>by exact jh (Y.ne iI A2 b f)) k3;have Ou:=hi3.AY .nil (λ b f=>λ z=>bQ (z)) U;rwa[ac Ou.ix,b f hu];have A:lj g s.length y.length xs (0+1) 0:=⟨U.bM JE,f4,by exact X1 (.l (.c 0) (.a (.c 0) (.c 1))) [] (.l [1]) rfl,by have:=k2.1;exact wO (.n (.k W0 W1)) [.k W2 (.a W0 (.c 1)),.k W1 W3,.i W2 W3] (.s 0 (.l [0,1,0,1,0,1,1]) (.l [0,1,0,1,0,1,1])) rfl l1 l3 this⟩;have lx:lf g t b:=by rwa[cX f,fs is a1 a2 _,-f];exact(aw fs a1 a2)
  have G:=Ou.ne iI A.Eb b lx;have B:=Ou.ne iI f4 b lx;have bl:=bD A.Eb;rcases t9 with rfl|rfl
  ·rwa[Qz (n:=n+28) A f ⟨G,B⟩ (by decide) (by decide),ps us e d i' m' J hw mG k'];have VQ:=Ou.AY A.lw (λ uF H=>by exact aU (hu uF H) (wM (G) (B))) k';have H:=f.kp k' A.lw (by exact wM (G) (B));exact hq d _ _ e g.length b i' m' mG rfl rfl VQ H (.inl (c9 ps us rfl J hw)) bl (zZ O) ⟨G,B⟩
  ·rwa[WZ (n:=n+19) A f ⟨G,B⟩,ps us e d i' m' J hw mG k'];have VQ:=Ou.AY A.lw (λ uF H=>by exact aU (hu uF H) (wM (G) (B))) k';have H:=f.kp k' A.lw (by exact wM (G) (B));exact hq d _ _ e g.length b i' m' mG rfl rfl VQ H (.inr (c9 ps us rfl J hw)) bl (zZ O) ⟨G,B⟩
 by_cases q:r=0
 ·subst q;have g1:∀ {Q E},wp (cK (.ref L) (.int 0)) Q E y=Q (.ref v) y:=bL (j:=0) f3 rfl;simp only[bp,g1,aX,aO,aN,aa,ae,az,bx,ah,ag,aA,ai,ao,b8];rwa[bk (by simp),g f4 U O];simp only[aX,aO,aN,aa,ae,az,ax,ag,aL,ah,af,aq,ak,am,aj,aA,ai,ao,aB];refine go v _ (.inl rfl) i1 _ (λ d w u e lo b i m hb e1 e2 Y f J b1 b2 hn=>?_) g f4 U O;subst e1 e2;simp only[aX,aO,aN,aa];exact h d _ x L v _ e cp lo b i m _ hb Y f J b1 b2 hn (.inl rfl)
 ·have:r=1:=by exact ed (.q Y0 (.c 1)) [.l (.c 0) Y0,.p Y0 (.c 2),.n (.q Y0 (.c 0))] (.s 0 (.s 4 (.l [1,0,1]) (.l [1,1])) (.l [1,0,1])) rfl r0 r1 q
  subst this;have g1:∀ {Q E},wp (cK (.ref L) (.int 1)) Q E y=Q (.ref Av) y:=bL (j:=1) f3 rfl;simp only[bp,g1,aX,aO,aN,aa,ae,az,bx,ah,ag,aA,ai,ao,b8];rwa[bk (by simp),g f4 U O];simp only[aX,aO,aN,aa,ae,az,ax,ag,aL,ah,af,aq,ak,am,aj,aA,ai,ao,aB];refine go Av _ (.inr rfl) i2 _ (λ d w u e lo b i m hb e1 e2 Y f J b1 b2 hn=>?_) g f4 U O;subst e1 e2;simp only[aX,aO,aN,aa];exact h d _ x L Av _ e cp lo b i m _ hb Y f J b1 b2 hn (.inr rfl)
end
section
variable{n:Nat}{E:Str->St->Prop}{s:St}{Q:Flow×Env->St->Prop}
theorem Np(G:lj s y u xs i m)(hx:Ix s t B N)(hn:B≠y/\B≠u)(t9:N=1/\rs=[(-2,6)]∨N=2/\rs=[(-2,6),(1,4)])
  (h:∀A H gs x8 i',lj A y u xs i' m->kv A H gs->(∀l,gs=some l->l.length=rs.length/\gi l rs=true/\∀g∈l,cE g.1/\cE g.2)->(∀a,H=.ref a->s.length<=a)->Kp [y,u] s A->
   px (n+90) R (eI x0 (some (.ref y)) (some (.ref wh)) (some (.ref tl)) (some (.ref t)) (some (.ref u)) (some (.ref pa)) (some H) x8 none none none none none none none none) Q E A):
  px (n+90) (FH++R) (eI x0 (some (.ref y)) (some (.ref wh)) (some (.ref tl)) (some (.ref t)) (some (.ref u)) (some (.ref pa)) none none none none none none none none none none) Q E s:=by
 unfold FH eI;unfold eI at h;simp only[List.cons_append,List.nil_append];simp only[ae,az,ag,aX,aO,aN,aa,bv,aI,ax,aL,ah,af,aq,ak,am,aj,aA,ai,ao,aB];rwa[D6 G (by decide),r ay r0 r1 JF k1 x];have YC:=bD G.Eb;have Ys:=bD G.EB;simp only[bU,ag,aS,n4];by_cases q:0<r
 ·simp only[bq q,aQ,c7,ae,az,bG,ax,ag,aL,ah,af,aq,ak,am,aj,aA,ai,ao,aB];rwa[D6 JF (by decide),a aH a0 a1 A2 k2 w];simp only[bU,ag,cz,gu,aX,aO,aN,aa,ae,az,bx,ah,bX,af,aq,ak,am,aj,aA,bG,ax,aL,ai,ao,aB];rwa[D6 A2 (by decide),b O b0 b1 JE k3 v];simp only[cz,dp,bU,ag,gu,aA,ai,ao,cJ,b8];rwa[bk (by simp),d J k4 l4];have U:Kp [y,u] s d:=((k1.trans k2).trans k3).trans k4.of;have Yi:=hx.kp U G.lw (by exact wM (hn.1) (hn.2));rwa[dm Yi,fs is x1 x2 x3 x4,-Yi];have g1:∀ {Q E},wp (cM (.ref t) 16) Q E d=Q (.ref B) d:=dg x1 rfl x2;have gl:∀ {Q E},wp (iu .len [.ref B]) Q E d=Q (.int (N:Int)) d:=by intro Q E;erw[len_list x3,x4];rfl
  have g2:∀ {Q E},wp (bz .Eq (.int (N:Int)) (.int 2)) Q E d=Q (.bool (decide ((N:Int)=2))) d:=iM AF;have Aq:=JE.kp k4;have e0:cE (a - 2):=⟨by exact ed (.l (.g (.c 100)) (.s Y0 (.c 2))) [.l (.c 0) Y0] (.l [1,1]) rfl a0,by exact ed (.l (.s Y0 (.c 2)) (.c 100)) [.p Y0 (.c 5)] (.l [1,1]) rfl a1⟩;have e1:cE (a - 2+b - 1):=⟨by exact oA (.l (.g (.c 100)) (.s (.a (.s Y0 (.c 2)) Y1) (.c 1))) [.l (.c 0) Y0,.l (.c 0) Y1] (.l [1,1,1]) rfl a0 b0,by exact oA (.l (.s (.a (.s Y0 (.c 2)) Y1) (.c 1)) (.c 100)) [.p Y0 (.c 5),.p Y1 (.c 5)] (.l [1,1,1]) rfl a1 b1⟩;have Ot:inR (a - 2,a - 2+b - 1) (-2,6)=true:=by
   simp only[inR,Bool.not_eq_true',Bool.and_eq_false_iff,Bool.or_eq_false_iff,decide_eq_false_iff_not]
   right;constructor<;> omega
  simp only[aX,aO,aN,aa,ae,bv,aI,ax,ag,aL,ah,bF,af,aq,ak,am,aj,ci,g1,aA,ai,ao,aB,aZ,gl,bU,aS,g2];rcases t9 with ⟨rfl,rfl⟩|⟨rfl,rfl⟩
  ·have L:decide (((1:Nat):Int)=2)=false:=rfl;simp only[L,aJ,c7,aM,aa];refine h d (.ref O.length) (some [(a - 2,a - 2+b - 1)]) _ _ Aq (aw _ rfl J) (λ l z=>?_) (λ c z=>by obtain rfl:=V.ref.inj (z);exact Mu x w v) U;obtain rfl:=an (z);exact(bN rfl (by simp only[gi,Ot,Bool.and_self]) (λ g f=>by rw[dF]at f;subst f;exact⟨e0,e1⟩))
  ·have L:decide (((2:Nat):Int)=2)=true:=rfl;have g3:∀ {Q E},wp (ge (.ref O.length) 0) Q E d=Q () d:=gK J (.inl rfl);simp only[L,aQ,c7,ae,cb,eV,af,aq,ak,am,aj,eU,g3,eT,ah,bX,ag,aA,ax,aL,ai,ao,aB];rwa[D6 Aq (by decide),c cI c0 c1 JD k5 l5];have f5:=k5.at J (by simp;exact KO (.e (.n (.k W0 W1)) (.n (.k W0 W2))) [.k W3 W4,.j W1 W4,.j W2 W4,.k W5 W3,.k W0 W5] (.s 0 (.s 0 (.l [1,0,0,1,1,0,0,1,0,1]) (.l [1,0,0,1,1,0,0,1,0,1])) (.s 0 (.l [1,0,0,1,0,1,0,1,0,1]) (.l [1,0,0,1,0,1,0,1,0,1]))) rfl x YC Ys w v);simp only[aA,ai,ao,cJ,gh];rwa[eZ f5 (by simp),dj f6 Y l6];have Wh:=JD.AY Y (by simp;exact Mt x YC w v) (by simp;exact Mt x Ys w v);have VO:inR (1,c) (1,4)=true:=by
    simp only[inR,Bool.not_eq_true',Bool.and_eq_false_iff,Bool.or_eq_false_iff,decide_eq_false_iff_not]
    right;constructor<;> omega
   simp only[aP,aa,aM];refine h dj (.ref O.length) (some [(a - 2,a - 2+b - 1),(1,c)]) _ _ Wh (aw _ rfl (by exact aU f6 rfl)) (λ l z=>?_) (λ c z=>by obtain rfl:=V.ref.inj (z);exact Mu x w v) ((U.trans k5).gG Y (by simp;exact KO (.o (.o (.k W0 W1) (.k W0 W2)) (.i W3 W0)) [.k W4 W3,.k W5 W4,.k W0 W5] (.s 0 (.l [1,0,1,0,1,0,1]) (.l [1,0,1,0,1,0,1])) rfl x w v));obtain rfl:=an (z);refine(bN rfl (by simp only[gi,Ot,VO,Bool.and_self]) (λ g f=>?_));rcases List.mem_cons.mp f with rfl|f
   ·exact⟨e0,e1⟩
   ·rw[dF]at f;subst f;exact⟨⟨by show(-100:Int)<=1;decide,by show(1:Int)<=100;decide⟩,⟨by show(-100:Int)<=c;exact ed (.l (.g (.c 100)) Y0) [.l (.c 0) Y0] (.l [1,1]) rfl c0,by show c<= (100:Int);exact ed (.l Y0 (.c 100)) [.p Y0 (.c 5)] (.l [1,1]) rfl c1⟩⟩
 ·simp only[bA q,aJ,c7,aM,aa];exact h ay .none none _ _ JF rfl (λ l z=>(aD (z))) (λ a z=>(bZ ri (z) rfl)) k1
end
noncomputable def Sh(s:St)(told t c:Nat)(gs:Option (List Rg))(R:Out)(rs:List Rg):Prop:=∃ (w:V) (b:List V) (f e:Nat),(∀d,lf s t d->d≠told)/\fP s t rs f e/\(∀l,gs=some l->l.length=rs.length/\gi l rs=true/\∀g∈l,cE g.1/\cE g.2)/\
 ((∃a,rs=[(-2,6)]/\R=gd a gs (-2)/\dC (kI w) s told w c a b/\qP a)∨(∃a,rs=[(-2,6),(1,4)]/\R=dN a gs [(-2,6),(1,4)] (-2) 1/\dC (ju w told t) s told w c a b/\qP a/\∀p∈a,qP p.2))
structure rM(s:St)(t pa lg told:Nat)(gv jd:V)(R:Out)(rs:List Rg)(gs:Option (List Rg)):Prop where
 Bo:Tl s told []
 UV:Tl s lg R.2
 ne:lg≠told
 size:R.2.length<=900
 J1:(∃w,(ii R rs).1=.error w/\jd=.str w)∨∃x,(ii R rs).1=.ok x/\mz 0 s jd x.1 (bC x.2)/\x.2.length<=24/\x.1.length<=2
 Zj:∀bl il,jd=.tup [.ref bl,.ref il]->bl≠told/\il≠told
 YV:kv s gv gs
 YW:∀a,gv=.ref a->a≠told
 Zh:Sh s told t pa gs R rs
section
variable{n:Nat}{E:Str->St->Prop}{s:St}{Q:Flow×Env->St->Prop}
theorem No(hi:fP s t rs cp wh)(B:Pq s t pa wh lo rs)(t9:rs=[(-2,6)]∨rs=[(-2,6),(1,4)])(hg:kv s gv gs)
  (rt:∀l,gs=some l->l.length=rs.length/\gi l rs=true/\∀g∈l,cE g.1/\cE g.2)
  (h:∀f jd lg told R,rM f t pa lg told gv jd R rs gs->Kp [] s f->
   px (n+90) S0 (eI x0 (some (.ref bg)) (some (.ref wh)) (some (.ref tl)) (some (.ref t)) (some (.ref mk)) (some (.ref pa)) (some gv) x8 (some (.ref lg)) (some jd) none none none none none (some (.ref told))) Q E f):
  px (n+90) (FG++S0) (eI x0 (some (.ref bg)) (some (.ref wh)) (some (.ref tl)) (some (.ref t)) (some (.ref mk)) (some (.ref pa)) (some gv) x8 none none none none none none none none) Q E s:=by
 rwa[ac hi.ix,ix bw hu];rwa[dm bw,fs is x1 x2 x3 x4,-bw];have g1:∀ {f},Kp [] s f->∀ {Q E},wp (cM (.ref t) 16) Q E f=Q (.ref ix) f:=λ k=>dg (k.bM x1) rfl x2;obtain ⟨N,hN⟩:∃N,N=rs.length:=⟨_,rfl⟩;have gl:∀ {f},Kp [] s f->∀ {Q E},wp (iu .len [.ref ix]) Q E f=Q (.int (N:Int)) f:=by intro f k Q E;erw[len_list (k.bM x3),x4,hN];rfl
 have Og:N<=2:=by erw[hN];rcases t9 with rfl|rfl<;> simp
 have U8:=bD x3
 unfold FG eI
 unfold eI at h
 simp only[List.cons_append,List.nil_append]
 simp only[ae,az,bx,ai,b8]
 rwa[bk (by simp),ay f1 k1 l1]
 simp only[aX,aO,aN,aa,ae,az,ax,ag,aL,ah,af,aq,ak,am,aj,aA,Dy,bx,nV,su,sg,ai,ao,b8]
 rwa[bk (by simp),aH f2 k2 l2]
 have ky:=k1.trans k2
 simp only[bU,ax,ag,aL,ah,bF,af,aq,ak,am,aj,ci,g1 ky,aA,ai,ao,aB,aZ,gl ky,Cy]
 rwa[G8 f2 (by exact B8) (cr (by exact B7) (by exact Ms Og)),bf f3 k3 l3]
 have uE:=ky.trans k3
 simp only[aA,ah,Dy,bx,ag,ai,ao,b8]
 rwa[bk (by simp),bK f4 k4 l4]
 have FS:=uE.trans k4
 simp only[bU,ax,ag,aL,ah,bF,af,aq,ak,am,aj,ci,g1 FS,aA,ai,ao,aB,aZ,gl FS,Cy]
 rwa[G8 f4 (by exact B8) (cr (by exact B7) (by exact Ms Og)),G f5 k5 l5]
 have Hv:=FS.trans k5
 simp only[aA,ah,af,aq,ak,am,aj,ai,ao,aB]
 rw [Int.toNat_natCast] at f3 f5
 have qY:G[aH.length]?= some (.list ((rs.map (·.1)).map .int)):=by
  erw[k5.bM (k4.bM f3)]
  rcases t9 with rfl|rfl<;>(exact aU hN rfl)
 have RJ:G[bK.length]?= some (.list ((rs.map (·.2)).map .int)):=by
  erw[f5]
  rcases t9 with rfl|rfl<;>(exact aU hN rfl)
 have Ym:Tl G s.length []:=(k2.trans (k3.trans (k4.trans k5))).bM f1;have Yy:=hg.kp Hv (λ a z=>λ y=>bQ (y));have YU:∀a,gv=.ref a->a<s.length:=λ a z=>by
  induction gs with
  |none=>have:gv=.none:=hg;rw[this]at z;exact bZ ri (z) rfl
  |some l=>rwa[ac hg,b e hb,-hg];rw[e]at z;obtain rfl:=V.ref.inj (z);exact bD hb
 have oH:∀a,gv=.ref a->a≠s.length:=λ a z=>by have:=YU a z;exact AW this
 have cT:∀ (R:Out) (jd:V) (o:St) (L:List Int),L=[]->R.2.length<=900->((∃w,(ii R rs).1=.error w/\jd=.str w)∨∃x,(ii R rs).1=.ok x/\mz 0 o jd x.1 (bC x.2)/\x.2.length<=24/\x.1.length<=2)->Tl o s.length (L++R.2)->Kp [s.length] G o->
   (∀f told,f.length≥0->o.length<=told->Kp [] o f->(∃ (w:V) (O:List V),(∃m,rs=[(-2,6)]/\R=gd m gs (-2)/\dC (kI w) f told w pa m O/\qP m)∨(∃m,rs=[(-2,6),(1,4)]/\R=dN m gs [(-2,6),(1,4)] (-2) 1/\dC (ju w told t) f told w pa m O/\qP m/\∀p∈m,qP p.2)))->
   px (n+90) (.a (.one 16) (.l [])::S0) [x0,some (.ref bg),some (.ref wh),some (.ref tl),some (.ref t),some (.ref mk),some (.ref pa),some gv,x8,some (.ref s.length),some jd,none,none,none,none,none,none,none,none,none,none,none,none,none,none,none,none,none,none,none,none] Q E o:=by
  intro R jd o L hL hs hd hH r ze;subst hL;simp only[ae,az,bx,ai,b8];rwa[bk (by simp),pz f7 k7 l7];have I4:=Hv.gG r (by exact m2);have Rw:=I4.trans k7;have XO:=I4.1;simp only[aX,aO,aN,aa];rwa[d9 (ze pz o.length (Nat.zero_le _) (Nat.le_refl _) k7),w O ze];refine h pz jd _ _ R ⟨f7,k7.bM hH,by have:=bD hH;exact AW this,hs,?_,?_,hg.kp Rw (λ a z=>λ y=>bQ (y)),λ a z=>by have:=YU a z;exact vz XO this,w,O,cp,wh,λ uF o9=>?_,hi.AY .nil (λ ix hx=>λ z=>bQ (z)) Rw,rt,ze⟩ Rw
  ·rcases hd with hd|⟨x,e1,e2,e3⟩
   ·exact .inl hd
   ·exact .inr (cR x e1 (e2.kp k7 (λ b hb=>bQ (hb))) e3)
  ·rintro bl il rfl
   rcases hd with ⟨w,_,e⟩|⟨x,e1,⟨bl',il',e2,_,_,e3,e4⟩,_⟩
   ·exact bZ ri (e) rfl
   ·cases e2
    have:=bD e3;have:=bD e4
    constructor<;> omega
  ·have:=Rw.bM x1;rwa[ac o9,ef y1 y2,-o9];rw[this]at y1;obtain rfl:=(d4.inst.inj (an (y1))).2;rw[x2]at y2;obtain rfl:=V.ref.inj (an (y2));exact jI (.n (.k W0 W1)) [.j W0 W2,.i W2 W1] (.s 0 (.l [0,1,1,1]) (.l [0,1,1,1])) rfl U8 XO
 have sl5:=Hv.1;rcases B with ⟨m,O,rfl,B,A⟩|⟨m,O,rfl,B,A⟩
 ·have N7:=dC.kp (s:=s) (s':=G) (λ _ _ z=>z) (B.Q6 (Nat.le_refl _)) Hv.of;have sz:=z8 (gs:=gs) (l0:= -2) A;have he:∀f told,G.length<=f.length->Kp [s.length] G f->f.length<=told->∀H,Kp [] f H->dC (kI (.ref wh)) H told (.ref wh) pa m O:=λ f told _ k Y H Rx=>dC.kp (s:=f) (s':=H) (λ _ _ z=>z) ((dC.kp (s:=G) (s':=f) (λ _ _ z=>z) N7 k).re (λ _ _ z=>z) Y) Rx.of
  refine Zq (R:=gd m gs (-2)) (L:=[]) (rs:=[(-2,6)]) qY RJ ⟨by exact Ft l1 l2,by exact Mr l1 l2 l3 l4⟩ (by simp) (λ x hx=>?_) (λ Q' e q=>?_) (λ w o J U r=>?_) (λ x v o J lv e1 e2 U r=>?_)
  ·unfold gd at hx;simp only at hx
   split at hx
   ·exact bZ Except.ctorIdx (hx) rfl
   ·obtain rfl:=Except.ok.inj (hx);rfl
  ·refine Qx (n:=n+22) (d:=0) (gs:=gs) (low:= -2) (los:=[-2]) (L:=[]) Ym N7 A.HV (λ p B l e=>by have:=(A.eG p B l e).1;exact Cc this) A.AP Yy oH (λ l z=>by erw[(rt l z).1];decide) (λ l z=>(rt l z).2.2) ⟨by decide,by decide⟩ qY (by exact Ft l1 l2) rfl rfl (by decide) (by have:(c8 cL m (cn gs 0) (-2)).2.length<=36:=sz;simp only[List.length_nil];exact mF (.i (.a (.c 0) W0) (.c 1000000)) [.i W0 (.c 36)] (.l [1,1]) rfl this) (λ w' H J U k2=>e w' H (by unfold gd;exact aU J rfl) U k2) (λ b acc v H J av U k2=>q ([b],acc) v H (by unfold gd;rw[J]) av ?_ ?_ U k2)
   ·rwa[bR (fT J),l b7 e1 e2];obtain rfl:=b7;show(((l.map some).length:Nat):Int)=1 * fv b;rw[kY,bo,e1,Int.one_mul]
   ·rwa[bR (fT J),l cH e1 e2];obtain rfl:=cH;rw[kY]at e2;show(l.map some).length<=1000;rw[bo,e1];exact mF (.i W0 (.c 1000)) [.n (.p (.c 24) (.t W0))] (.l [1,1]) rfl e2
  ·simp only[aX,aO,aN,aa,ae,az,bx,ai,b8];exact cT (gd m gs (-2)) _ o [] rfl (by exact Mq sz) (.inl (aw w J rfl)) U r λ f told _ Y k'=>(im _ O (.inl (dP m rfl rfl (he o told r.1 r Y f k') A.HV)))
  ·simp only[aX,aO,aN,aa,ae,az,bx,ai,b8];exact cT (gd m gs (-2)) _ o [] rfl (by exact Mq sz) (.inr (dP x J (lv.low (Nat.zero_le _)) e1 e2)) U r λ f told _ Y k'=>(im _ O (.inl (dP m rfl rfl (he o told r.1 r Y f k') A.HV)))
 ·have N7:=dC.kp (s:=s) (s':=G) (λ u x OW=>by rwa[cO OW,p1 u1 h1 h2,-OW];exact(ff p1 u1 h1 (dC.kp (s:=s) (s':=G) (λ _ _ h=>h) h2 Hv.of))) (B.ZW (Nat.le_refl _)) Hv.of;have sz:=Au (gs:=gs) (rs:=[(-2,6),(1,4)]) (l0:= -2) (l1:=1) A;have Ai:∀p∈m,qP p.2:=λ p B=>(A.AP p B).HV;have he:∀f told,G.length<=f.length->Kp [s.length] G f->f.length<=told->∀H,Kp [] f H->dC (ju (.ref wh) told t) H told (.ref wh) pa m O:=λ f told _ k Y H Rx=>dC.kp (s:=f) (s':=H) (λ u x OV=>by rwa[cO OV,p1 u1 h1 h2,-OV];exact(ff p1 u1 h1 (dC.kp (s:=f) (s':=H) (λ _ _ h=>h) h2 Rx.of))) ((dC.kp (s:=G) (s':=f) (λ u x OU=>by rwa[cO OU,p1 u1 h1 h2,-OU];exact(ff p1 u1 h1 (dC.kp (s:=G) (s':=f) (λ _ _ h=>h) h2 k))) N7 k).Z5 Y) Rx.of
  refine Zq (R:=dN m gs [(-2,6),(1,4)] (-2) 1) (L:=[]) (rs:=[(-2,6),(1,4)]) qY RJ ⟨by exact Ft l1 l2,by exact Mr l1 l2 l3 l4⟩ (by simp) (sE λ l z=>(rt l z).1) (λ Q' e q=>?_) (λ w o J U r=>?_) (λ x v o J lv e1 e2 U r=>?_)
  ·exact WW (n:=n+13) (t:=t) (gs:=gs) (l0:= -2) (l1:=1) (h0:=6) (h1:=4) (L:=[]) Ym N7 A.HV Ai (λ p B l e=>by have:=(A.eG p B l e).1;exact Cc this) (λ p B q hq l e=>by have:=((A.AP p B).eG q hq l e).1;exact Cc this) (λ p B=>(A.AP p B).AP) Yy oH (λ l z=>(rt l z).1) (λ l z=>(rt l z).2.2) ⟨by decide,by decide⟩ ⟨by decide,by decide⟩ qY (by exact Ft l1 l2) (by simp only[List.length_nil];exact mF (.i (.a (.c 0) W0) (.c 1000000)) [.i W0 (.c 876)] (.l [1,1]) rfl sz) e q
  ·simp only[aX,aO,aN,aa,ae,az,bx,ai,b8];exact cT (dN m gs [(-2,6),(1,4)] (-2) 1) _ o [] rfl (by exact Mp sz) (.inl (aw w J rfl)) U r λ f told _ Y k'=>(im _ O (.inr (jk m rfl rfl (he o told r.1 r Y f k') A.HV Ai)))
  ·simp only[aX,aO,aN,aa,ae,az,bx,ai,b8];exact cT (dN m gs [(-2,6),(1,4)] (-2) 1) _ o [] rfl (by exact Mp sz) (.inr (dP x J (lv.low (Nat.zero_le _)) e1 e2)) U r λ f told _ Y k'=>(im _ O (.inr (jk m rfl rfl (he o told r.1 r Y f k') A.HV Ai)))
end
noncomputable def FE:List S:=[
 .a (.one 12) (.call (.k (.cls 64)) [(.k .none),(.sN 81 [(.int 32),(.int 1000000),(.int 50)] (.k (.int 24)) [(.int 100000),(.int 50)])]),
 .aC (.v 12) 30 (.fS "tell" (.v 11)),
 .a (.one 13) (.call (.k (.cls 30)) [(.v 4),(.ite (.c .Is (.v 7) (.k .none)) (.k .none) (.tup [(.k (.str "index")),(.v 7)]))])]
section
variable{n:Nat}{ρ:Env}{E:Str->St->Prop}{s:St}
theorem Kc(h:∀b,b[s.length]?= some (.inst 81 [(55,.int 32),(35,.int 1000000),(56,.int 50),(57,.int 24),(0,.int 100000),(58,.int 50)])->Kp [] s b->b.length=s.length+1->Q (.ref s.length) b):
  pc (n+10) (.cls 81) [.int 32,.int 1000000,.int 50,.int 24,.int 100000,.int 50] Q E s:=by
 erw[call_cls rfl]
 rwa[eA,Y H w o];refine(gX (ρ:=[some (.ref s.length),some (.int 32),some (.int 1000000),some (.int 50),some (.int 24),some (.int 100000),some (.int 50)]) rfl).mpr ?_;simp only[Qm,ae,au,af,aq,ak,am,aj,aR,aY];rwa[dI H rfl (by decide),aH G v m];simp only[aP,aa,ae,au,af,aq,ak,am,aj,aR,aY];rwa[dI G rfl (by decide),O B u j];simp only[aP,aa,ae,au,af,aq,ak,am,aj,aR,aY];rwa[dI B rfl (by decide),U A t i];simp only[aP,aa,ae,au,af,aq,ak,am,aj,aR,aY];rwa[dI A rfl (by decide),L z r g];simp only[aP,aa,ae,au,af,aq,ak,am,aj,aR,aY];rwa[dI z rfl (by decide),J y q f];simp only[aP,aa,ae,au,af,aq,ak,am,aj,aR,aY];rwa[dI y rfl (by decide),d x p e];simp only[aP,aa,aM,fq,sv];exact h d x ((((((w.gG v (by exact m2)).gG u (by exact m2)).gG t (by exact m2)).gG r (by exact m2)).gG q (by exact m2)).gG p (by exact m2)) (by exact ln8 (.k W0 (.a W1 (.c 1))) [.k W2 (.a W1 (.c 1)),.k W3 W2,.k W4 W3,.k W5 W4,.k W6 W5,.k W7 W6,.k W0 W7] (.s 0 (.l [1,0,1,0,1,0,1,0,1,0,1,0,1,0,1]) (.l [1,1,0,1,0,1,0,1,0,1,0,1,0,1])) rfl o m j i g f e)
theorem Qu(h:∀a,Kp [] s a->Q (.ref s.length) a):pc (n+10) (.cls 7) [] Q E s:=by
 erw[call_cls rfl]
 rwa[eA,j d c g];refine(gX (ρ:=[some (.ref s.length)]) rfl).mpr ?_;simp only[Zo,ae,au,ag,aR,af,ak,am,aj,aY];rwa[dI d rfl (by decide),e i b f];simp only[aP,aa,aM,fq,sv];exact h e (c.gG b (by exact m2))
theorem Kd(h:∀g i,g[s.length]?= some (.inst 64 i)->i.lookup 29=some b->Kp [] s g->Q (.ref s.length) g):pc (n+20) (.cls 64) [a,b] Q E s:=by
 erw[call_cls rfl]
 rwa[eA,ay f1 J l1];refine(gX (ρ:=[some (.ref s.length),some (a),some (b),none]) rfl).mpr ?_;have m:∀ {g:St} {i:List (Nat×V)} {j:Nat} {v:V} {Q:Unit->St->Prop},g[s.length]?= some (.inst 64 i)->i.lookup 29=some b->j≠29->j<bH.length->Kp [] s g->(∀o y,o[s.length]?= some (.inst 64 y)->y.lookup 29=some b->Kp [] s o->Q () o)->wp (gY (.ref s.length) j v) Q E g:=by intro g i j v Q h1 Y U O k L;exact dI h1 rfl O λ o f p l=>L o _ f (dw (λ z=>U z.symm) v Y) (k.gG p (by exact m2))
 have q:∀ {g:St} {i:List (Nat×V)} {Q:V->St->Prop},g[s.length]?= some (.inst 64 i)->Kp [] s g->(∀o v,o[s.length]?= some (.inst 64 i)->Kp [] s o->Q v o)->wp (cY (.dM [])) Q E g:=λ f k t=>eA λ o f' p H=>t o _ (p.bM f) (k.trans p);have r:∀ {g:St} {i:List (Nat×V)} {Q:V->St->Prop},g[s.length]?= some (.inst 64 i)->Kp [] s g->(∀o v,o[s.length]?= some (.inst 64 i)->Kp [] s o->Q v o)->wp (lZ []) Q E g:=λ f k t=>bk (by simp) λ o f' p H=>t o _ (p.bM f) (k.trans p);simp only[Qn,ae,au,af,aq,ak,am,aj,aR,aY];rwa[dI f1 rfl (by decide),aH x w G];have A:=J.gG w (by exact m2);simp only[aP,aa,ae,au,af,aq,ak,am,aj,aR,aY];rwa[dI x rfl (by decide),bf c u B];have d:=A.gG u (by exact m2);have e:(iR 29 b (iR 28 a [])).lookup 29=some b:=rfl;generalize iR 29 b (iR 28 a [])=i at c e;clear x w u G B A;simp only[aP,aa,ae,au,dh];rwa[q c d,g v c d];simp only[aR,af,ak,am,aj,aY];rwa[m c e (by decide) (by decide) d,g i c e d];simp only[aP,aa,ae,au,dh];rwa[q c d,g v c d];simp only[aR,af,ak,am,aj,aY];rwa[m c e (by decide) (by decide) d,g i c e d];simp only[aP,aa,ae,au,dh];rwa[q c d,g v c d];simp only[aR,af,ak,am,aj,aY];rwa[m c e (by decide) (by decide) d,g i c e d];simp only[aP,aa,ae,au,ax,ag,aL,ai,aB];rwa[Qu,g p];have c:=p.bM c;have d:=d.trans p;simp only[aR,af,ak,am,aj,aY];rwa[m c e (by decide) (by decide) d,g i c e d];simp only[aP,aa,ae,au,ag,aR,af,ak,am,aj,aY];rwa[m c e (by decide) (by decide) d,g i c e d];simp only[aP,aa,ae,au,ag,aR,af,ak,am,aj,aY];rwa[m c e (by decide) (by decide) d,g i c e d];simp only[aP,aa,ae,au,ag,aR,af,ak,am,aj,aY];rwa[m c e (by decide) (by decide) d,g i c e d];simp only[aP,aa,ae,au,ag,aR,af,ak,am,aj,aY];rwa[m c e (by decide) (by decide) d,g i c e d];simp only[aP,aa,ae,au,bx,ai,b8];rwa[r c d,g v c d];simp only[aR,af,ak,am,aj,aY];rwa[m c e (by decide) (by decide) d,g i c e d];simp only[aP,aa,ae,au,dh];rwa[q c d,g v c d];simp only[aR,af,ak,am,aj,aY];rwa[m c e (by decide) (by decide) d,g i c e d];simp only[aP,aa,ae,au,dh];rwa[q c d,g v c d];simp only[aR,af,ak,am,aj,aY];rwa[m c e (by decide) (by decide) d,g i c e d];simp only[aP,aa,ae,au,dh];rwa[q c d,g v c d];simp only[aR,af,ak,am,aj,aY];rwa[m c e (by decide) (by decide) d,g i c e d];simp only[aP,aa,ae,au,dh];rwa[q c d,g v c d];simp only[aR,af,ak,am,aj,aY];rwa[m c e (by decide) (by decide) d,g i c e d];simp only[aP,aa,ae,au,ag,aR,af,ak,am,aj,aY];rwa[m c e (by decide) (by decide) d,g i c e d];simp only[aP,aa,ae,au,ag,aR,af,ak,am,aj,aY];rwa[m c e (by decide) (by decide) d,g i c e d];simp only[aP,aa,ae,au,ag,aR,af,ak,am,aj,aY];rwa[m c e (by decide) (by decide) d,g i c e d];simp only[aP,aa,ae,au,ag,aR,af,ak,am,aj,aY];rwa[m c e (by decide) (by decide) d,g i c e d];simp only[aP,aa,ae,au,ag,aR,af,ak,am,aj,aY];rwa[m c e (by decide) (by decide) d,g i c e d];simp only[aP,aa,ae,au,ag,aR,af,ak,am,aj,aY];rwa[m c e (by decide) (by decide) d,g i c e d];simp only[aP,aa,ae,au,ag,aR,af,ak,am,aj,aY];rwa[m c e (by decide) (by decide) d,g i c e d];simp only[aP,aa,ae,au,ag,aR,af,ak,am,aj,aY];rwa[m c e (by decide) (by decide) d,g i c e d];simp only[aP,aa,ae,au,ag,aR,af,ak,am,aj,aY];rwa[m c e (by decide) (by decide) d,g i c e d];simp only[aP,aa,ae,au,ag,aR,af,ak,am,aj,aY];rwa[m c e (by decide) (by decide) d,g i c e d];simp only[aP,aa,ae,au,ag,aR,af,ak,am,aj,aY];rwa[m c e (by decide) (by decide) d,g i c e d];simp only[aP,aa,ae,au,ag,aR,af,ak,am,aj,aY];rwa[m c e (by decide) (by decide) d,g i c e d];simp only[aP,aa,ae,au,dh];rwa[q c d,g v c d];simp only[aR,af,ak,am,aj,aY];rwa[m c e (by decide) (by decide) d,g i c e d];simp only[aP,aa,aM,fq,sv];exact h g i c e d
end
section
variable{n:Nat}{E:Str->St->Prop}{s:St}{Q:Flow×Env->St->Prop}
theorem Nn(hg:kv s A gs)(ht:s[p]?= some (.tell told))
  (h:∀g r nd v a,Wo g r nd p told v→rL g a t gs→(∀c,g[a]?= some (.inst 30 [(6,.ref t),(7,c)])→∀d,c=.tup [.str "index",.ref d]→A=.ref d)→Kp [] s g→
   px (n+90) R (eI x0 x1 x2 x3 (some (.ref t)) x5 x6 (some A) x8 x9 fQ (some (.ref p)) (some (.ref r)) (some (.ref a)) none none EA) Q E g):
  px (n+90) (FE++R) (eI x0 x1 x2 x3 (some (.ref t)) x5 x6 (some A) x8 x9 fQ (some (.ref p)) none none none none EA) Q E s:=by
 unfold FE eI;unfold eI at h;simp only[List.cons_append,List.nil_append];simp only[ae,az,ax,ag,aL,ah,aA,DC,U3];rwa[Kc,ay f1 k1 U];simp only[aA,ai,ao,aB];rwa[Kd,L fs f2 e2 Y];simp only[aX,aO,aN,aa,ae,au,DA,af,aq,ak,am,aj,IZ];rwa[eA,bf f3 x l3];simp only[aR,af,aq,ak,am,aj,aY];rwa[dI (x.bM f2) rfl (by decide),f f4 w l4];have h2:=bD f2;have q:Kp [] s f:=((k1.trans Y).trans x).gG w (by have:=k1.1;simp;exact Ce U);have UU:=w.at (x.bM (Y.bM f1)) (by simp;exact iA (.n (.k W0 W1)) [.k W1 (.a W0 (.c 1))] (.s 0 (.l [0,1,0,1]) (.l [0,1,0,1])) rfl U);have u:=w.at f3 (by simp;exact AX h2);have H:=dw (j:=30) (i:=29) (by decide) (.ref L.length) e2;have G:=jr 30 (.ref L.length) fs;have VU:=hg.kp q (λ a z=>λ y=>bQ (y));have O:Wo f ay.length L.length p told s.length:=⟨(cR _ f4 G H),u,q.bM ht,_,UU,rfl⟩;simp only[aP,aa,ae,az,ax,ag,aL,ah,af,aq,ak,am,aj,aA,dB,aI,bU,aS]
 induction gs with
 |none=>have e:=hg;subst e;have B:∀ {Q E},wp (bz .Is .none .none) Q E f=Q (.bool true) f:=gt rfl;simp only[B,aQ,gy,ag,aA,ai,ao,aB];rwa[nZ,J o b l5];simp only[aX,aO,aN,aa];exact h J _ _ _ _ (O.kp b .nil) (aw _ o rfl) (λ c m d z=>by rw[o]at m;cases m;exact bZ ri (z) rfl) (q.trans b)
 |some l=>rwa[ac (id VU),d bw vU];subst bw;have B:∀ {Q E},wp (bz .Is (.ref d) .none) Q E f=Q (.bool false) f:=gt rfl;simp only[B,aJ,gy,bX,ah,ag,aA,af,aq,ak,am,aj,ai,ao,cJ,aB];rwa[nZ,J o b l5];simp only[aX,aO,aN,aa];exact h J _ _ _ _ (O.kp b .nil) (aw _ o ⟨d,rfl,b.bM vU⟩) (λ c m ga' z=>by rw[o]at m;cases m;cases z;rfl) (q.trans b)
end
theorem Sh.kp(h:Sh s told t v gs R rs)(k:Kp [] s s'):Sh s' told t v gs R rs:=by
 rwa[kT h,w q H p i c G B,-h];refine(me w q H p (λ A e=>?_) (c.AY .nil (λ A e=>λ z=>bQ (z)) k) G ?_)
 ·rwa[ac c.ix,Ry j L];rwa[dm j,O J m l Y U,-j];rwa[ac e,Q b a,-e];rw[k.bM m]at b;obtain rfl:=(d4.inst.inj (an (b))).2;rw[l]at a;obtain rfl:=V.ref.inj (an (a));exact i _ (aw _ m l)
 ·rcases B with ⟨d,b,a,g,f⟩|⟨d,b,a,g,f⟩
  ·exact .inl (dP d b a (dC.kp (s:=s) (s':=s') (λ _ _ z=>z) g k.of) f)
  ·exact .inr (dP d b a (dC.kp (s:=s) (s':=s') (λ u x o=>by rwa[cO o,y r i c,-o];exact(ff y r i (dC.kp (s:=s) (s':=s') (λ _ _ h=>h) c k.of))) g k.of) f)
theorem rM.kp(h:rM s t c d told i e R rs gs)(k:Kp [] s s'):rM s' t c d told i e R rs gs:=by
 refine⟨k.bM h.Bo,k.bM h.UV,h.ne,h.size,?_,h.Zj,h.YV.kp k (λ a z=>λ y=>bQ (y)),h.YW,h.Zh.kp k⟩;rcases h.J1 with f|⟨x,m,l,j⟩
 ·exact .inl f
 ·exact .inr (cR x m (l.kp k (λ b g=>bQ (g))) j)
section
variable{n:Nat}{E:Str->St->Prop}{s:St}
theorem Nm(L:rM s t y lg told J jd R rs gs)(i:Wo s r nd tl told A)(k:rL s a t gs)(G:∀c,s[a]?= some (.inst 30 [(6,.ref t),(7,c)])→∀d,c=.tup [.str "index",.ref d]→J=.ref d)
  (o:∀w b,(ii R rs).1=.error w->Tl b told R.2->Kp [told] s b->E w b) (m:∀x v b,(ii R rs).1=.ok x->jq s.length b v x.1 (bC x.2)->Tl b told R.2->Kp [told] s b->Q v b):
  pc (n+76) (.fn 79) [.ref r,.tup [.str "aggr",.ref t,.ref a,.ref y]] Q E s:=by
 rwa[kT L.Zh,w Y cp U q p e H];have h:∀c,s[a]?= some (.inst 30 [(6,.ref t),(7,c)])→∀d,c=.tup [.str "index",.ref d]→d≠told:=fun c B d z=>L.YW d (G c B d z);have j:=L.size;rcases H with ⟨u,rfl,rfl,g,f⟩|⟨u,rfl,rfl,g,f,O⟩
 ·exact Xb i L.Bo g f k h p q ⟨by decide,by decide⟩ ⟨by decide,by decide⟩ (λ l z=>⟨(e l z).1,(e l z).2.1⟩) (λ l z=>(e l z).2.2) (Mo j) o m
 ·exact Xc i L.Bo g f O k h p q ⟨by decide,by decide⟩ ⟨by decide,by decide⟩ ⟨by decide,by decide⟩ ⟨by decide,by decide⟩ (λ l z=>⟨(e l z).1,(e l z).2.1⟩) (λ l z=>(e l z).2.2) (Mo j) o m
end
theorem mo(s:St):∀ (l:List V) (f:Nat),l.length+2<=f->(∀v∈l,ki v=true)->fW f s l l=some true
 | [],f+1,_,_=>rfl
 | [],0,h,_=>by simp at h
 |v::l,0,h,_=>by simp at h
 |v::l,f+1,h,d=>by
  have j:=mo s l f (by simp at h;exact iA (.i (.a W0 (.c 2)) W1) [.i (.a W0 (.c 2)) W1] (.l [1,1]) rfl h) λ x m=>d x (.tail _ m);obtain ⟨g,rfl⟩:∃g,f=g+1:=⟨f - 1,by simp at h;exact jI (.k W0 (.a W1 (.c 1))) [.i (.a W2 (.c 2)) W0,.o (.e (.i (.c 1) W0) (.k (.a W1 (.c 1)) W0)) (.e (.i W0 (.c 1)) (.k W1 (.c 0)))] (.s 0 (.s 3 (.l [0,1,0,1]) (.l [0,1,0,1,1])) (.s 3 (.l [0,0,1,1]) (.l [1,0,0,1]))) rfl h (Mine.L.uT _ _)⟩;have n:lQ (g+1) s v v=some true:=by have:=d v (.head _);rcases v with ⟨⟩<;> first|rfl|cases this;done|show some (decide _)=_;simp
  show((lQ (g+1) s v v).bind λ a=>(fW (g+1) s l l).map λ b=>a&&b)=_
  erw[n,j];rfl
theorem nW(i:s[x]?= some (.list a))(h:s[y]?= some (.list b))(e:a.length=b.length)(g:fW f s a b=some r)(j:x=y->r=true):lQ (f+1) s (.ref x) (.ref y)=some r:=by
 show((rK s x).bind λ d=>(rK s y).bind λ c=>if x=y then some true else if d.length=c.length then fW f s d c else some false)=_
 erw[n8 i,n8 h]
 show(if x=y then some true else if a.length=b.length then fW f s a b else some false)=_;by_cases q:x=y
 ·erw[if_pos q,j q];rfl
 ·erw[if_neg q,if_pos e,g];rfl
theorem Gr{s:St}{x y:Nat}{L:List Int}(g:s[x]?= some (.list (L.map .int)))(e:s[y]?= some (.list (L.map .int)))(d:L.length<=900):lQ dY s (.ref x) (.ref y)=some true:=
 nW (f:=999) g e rfl (mo s _ _ (by rw[bo];exact mF (.i (.a W0 (.c 2)) (.c 999)) [.i W0 (.c 900)] (.l [1,1]) rfl d) λ v b=>by rwa[ac (List.mem_map.mp b),i _ h];subst h;rfl) λ _=>rfl
theorem JX{s:St}{c d g e:Nat}{h:List Rg}{j:List (Option Int)}(r:s[c]?= some (.list (h.map du)))(q:s[d]?= some (.list (bC j)))(p:s[g]?= some (.list (h.map du)))(o:s[e]?= some (.list (bC j)))(n:h.length<=2)(m:j.length<=24):
  lQ dY s (.tup [.ref c,.ref d]) (.tup [.ref g,.ref e])=some true:=by
 have u:=nW (f:=997) r p rfl (by erw[qy s h h 997 (mF (.i (.a W0 (.c 6)) (.c 997)) [.i W0 (.c 2)] (.l [1,1]) rfl n) rfl];simp) λ _=>rfl;have t:lQ 997 s (.ref d) (.ref e)=some true:=nW (f:=996) q o rfl (mo s _ _ (by unfold bC;rw[bo];exact mF (.i (.a W0 (.c 2)) (.c 996)) [.i W0 (.c 24)] (.l [1,1]) rfl m) λ v k=>by rwa[ac (List.mem_map.mp k),i _ w];subst w;rcases i with ⟨⟩<;> rfl) λ _=>rfl
 show(if [V.ref c,V.ref d].length=[V.ref g,V.ref e].length then fW 999 s [.ref c,.ref d] [.ref g,.ref e]else none)=_
 erw[if_pos (show [V.ref c,V.ref d].length=[V.ref g,V.ref e].length from rfl)]
 show((lQ 998 s (.ref c) (.ref g)).bind λ a=>((lQ 997 s (.ref d) (.ref e)).bind λ a=>(fW 997 s [] []).map λ b=>a&&b).map λ b=>a&&b)=_
 erw[u,t];rfl
noncomputable def FD:List S:=[
 .ez (.q (.call (.k (.bi .isinstance)) [(.v 10),(.k (.bi .nF))]) (.not (.call (.k (.bi .isinstance)) [(.v 14),(.k (.cls 8))]))) [.ret (some (.k (.bool false)))] [],
 .ret (some (.p (.c .Eq (.tup [(.call (.k (.bi .list)) [(.t (.v 14) 4)]),(.t (.v 14) 5)]) (.v 10)) (.c .Eq (.v 16) (.v 9))))]
section
variable{n:Nat}{E:Str->St->Prop}{s:St}{Q:Flow×Env->St->Prop}
theorem Nl{told d:Nat}{v f:V}{L:List Int}{x:List Rg×List (Option Int)}{z y w u t r q p o A AS Lv G:Option V}(i:jq 0 s v x.1 (bC x.2))(j:mz 0 s f x.1 (bC x.2))(U:x.1.length<=2)(O:x.2.length<=24)(H:Tl s told L)(J:Tl s d L)(Y:L.length<=900)
  (h:∀m B,Q (.ret (.bool true),m) B):
  px (n+90) FD (eI z y w u t r q p o (some (.ref d)) (some f) A AS Lv (some v) G (some (.ref told))) Q E s:=by
 rwa[jU i,a bl g bw _ _ _ e a2 a3];try clear i;subst bw
 rwa[cv j,k l b7 _ _ d1 d2];try clear j;subst b7
 have g1:∀ {Q E},wp (iu .isinstance [.tup [.ref k,.ref l],.bi .nF]) Q E s=Q (.bool false) s:=bJ rfl;have g2:∀ {Q E},wp (iu .isinstance [.ref a,.cls 8]) Q E s=Q (.bool true) s:=bJ (by show vk ((vN s (.ref a)).bind _) s=_;erw[Bf e];rfl);have g3:∀ {Q E},wp (cM (.ref a) 4) Q E s=Q (.ref bl) s:=dg e rfl rfl;unfold FD eI;simp only[ae,bv,eD,ax,ag,aL,ah,af,aq,ak,am,aj,aA,ai,ao,aB,aZ,g1,aJ,gy,qw,g2,k_not,Bool.not_true,cW,c7,aM,aa,aT,dU,aI,bX,bF,ci,g3];rwa[nB a2,c f1 b l1];have g4:∀ {Q E},wp (cM (.ref a) 5) Q E c=Q (.ref g) c:=dg (b.bM e) rfl rfl;have g5:∀ {Q E},wp (bz .Eq (.tup [.ref s.length,.ref g]) (.tup [.ref k,.ref l])) Q E c=Q (.bool true) c:=iM (JX f1 (b.bM a3) (b.bM d1) (b.bM d2) U O);have g6:∀ {Q E},wp (bz .Eq (.ref told) (.ref d)) Q E c=Q (.bool true) c:=iM (Gr (b.bM H) (b.bM J) Y);simp only[aA,ah,bF,af,aq,ak,am,aj,ci,g4,ai,ao,cJ,bU,aS,g5,aQ,gy,aI,g6,cW,br,aF];exact h _ _
end
section
variable{s:St}
theorem Pq.kp(h:Pq s t j i lo rs)(k:Kp W s s')(g:∀b∈W,b<lo):Pq s' t j i lo rs:=by
 rcases h with ⟨c,a,e,f,d⟩|⟨c,a,e,f,d⟩
 ·exact .inl (c9 c a e (f.kp (Rs _) k g) d)
 ·exact .inr (c9 c a e (f.kp (XY _ _) k g) d)
noncomputable def no:Str->St->Prop:=λ _ _=>False
noncomputable def ZE(e:List Int)(x:Flow×Env)(s:St):Prop:=x.1=.next/\∃j i h t g a d f b c told R rs gs,
 x.2=eI (some (.ke e)) j i h (some (.ref t)) g (some (.ref a)) (some d) f (some (.ref b)) (some c) none none none none none (some (.ref told))/\rM s t a b told d c R rs gs
theorem plain1:px 90 (FI++(FH++(FG++[]))) (eI (some (.ke p)) none none none none none none none none none none none none none none none none) (ZE p) no s:=by
 rwa[Nq (n:=0),ay bg G H t O J cp lo g i m rs o l a u x w c f];rwa[Np (n:=0) o a c (f.imp (λ e=>⟨by exact aU e rfl,e⟩) λ e=>⟨by exact aU e rfl,e⟩),aH gv gs B i' Q v q _ k];refine No (n:=0) (l.AY o.lw (λ d r=>?_) k) (u.kp k λ b h=>?_) f v q λ bf jd U told R L Y=>?_
 ·rwa[ac l.ix,Ry _ j];have e:d=g:=(j d r).trans (j g (by rwa[cX a,y is A z _,-a];exact(aw y A z))).symm
  erw[e]
  simp [c.1,c.2]
 ·rcases List.mem_cons.mp h with rfl|h
  ·exact x
  ·rw[dF]at h;subst h;exact w
 ·exact aU aM ⟨rfl,_,_,_,_,_,_,_,_,_,_,_,_,_,_,rfl,L⟩
noncomputable def XC(t f g told e:Nat)(d h:V)(R:Out)(rs:List Rg)(gs:Option (List Rg))(o n m l k j:Option V)(x:Flow×Env)(s:St):Prop:=x.1=.next/\∃r p b a,
 x.2=eI o n m l (some (.ref t)) k (some (.ref f)) (some d) j (some (.ref g)) (some h) (some (.ref e)) (some (.ref r)) (some (.ref a)) none none (some (.ref told))/\rM s t f g told d h R rs gs/\Wo s r p e told b/\rL s a t gs/\
 ∀c,s[a]?= some (.inst 30 [(6,.ref t),(7,c)])→∀i,c=.tup [.str "index",.ref i]→d=.ref i
theorem plain2(L:rM s t c d told f e R rs gs)(q:s[b]?= some (.tell told)):
  px 90 (FE++[]) (eI m l j i (some (.ref t)) h (some (.ref c)) (some f) g (some (.ref d)) (some e) (some (.ref b)) none none none none (some (.ref told))) (XC t c d told b f e R rs gs m l j i h g) no s:=by
 exact Nn (n:=0) L.YV q λ w r x p a o u v k=>aU aM ⟨rfl,_,_,_,_,rfl,L.kp k,o,u,v⟩
theorem Ii(L:rM s t l o told A p R rs gs)(j:Wo s r J H told m)(q:rL s a t gs)(u:∀c,s[a]?= some (.inst 30 [(6,.ref t),(7,c)])→∀f,c=.tup [.str "index",.ref f]→A=.ref f):
  pc 76 (.fn 79) [.ref r,.tup [.str "aggr",.ref t,.ref a,.ref l]] (fun v b=>∃x,(ii R rs).1=.ok x∧jq s.length b v x.1 (bC x.2)∧Tl b told R.2∧Kp [told] s b)
   (λ w b=>p=.str w/\Tl b told R.2/\Tl b o R.2) s:=
 Nm (n:=0) L j q u (λ w b e h k=>(bN (L.J1.elim (λ g=>by rwa[ac g,G d B,-g];rw[e]at d;obtain rfl:=Except.error.inj (d);exact B) λ i=>by rwa[ac i,x d _,-i];exact(bZ Except.ctorIdx (e.symm.trans d) rfl)) h (k.at L.UV (by simp [L.ne])))) λ x v b e z y k=>(dP x e z y k)
theorem Ih(L:rM s t pa l told w p R rs gs)(h:∃x,(ii R rs).1=.ok x/\jq s.length c v x.1 (bC x.2)/\Tl c told R.2/\Kp [told] s c):
  px 90 FD (eI x0 x1 x2 x3 (some (.ref t)) x5 (some (.ref pa)) (some w) x8 (some (.ref l)) (some p) (some (.ref tl)) (some (.ref r)) (some (.ref a)) (some v) none (some (.ref told))) (λ x _=>x.1=.ret (.bool true)) no c:=by
 rwa[dR h,x e u q k,-h];rcases L.J1 with ⟨G,b,_⟩|⟨B,b,d,o,m⟩
 ·rw[e]at b;cases b
 ·rw[e]at b;obtain rfl:=Except.ok.inj (b);rwa[cv d,j g i _ _ z y,-d];have f:=L.Zj j g i;exact Nl (n:=0) (u.low (Nat.zero_le _)) (fN j g i (Nat.zero_le _) (Nat.zero_le _) (k.at z (by simp [f.1])) (k.at y (by simp [f.2]))) m o q (k.at L.UV (by simp [L.ne])) L.size λ A c=>rfl
end
end
section
open PySem
set_option backward.match.sparseCases false
noncomputable def gFn:List (String×Nat):=[("copy_value",11),("raise_constraint",15),("dim_length",16),("array_size",17),("check_index_ranges",20),("named_bounds",21),("aggregate_bounds",22),("claim_index",23),("spread_parts",24),("claim_choices",25),("join_rows",26),("base_bounds",31),("int_type",32),("array_type",33),("numbered",34),("is_scalar",35),("whole_subtype",36),("integer_type",37),("full_subtype",40),("full_type",41),("check_discs",47),("refuse",50),("bounds_of",51),("in_bounds",52),("is_member",53),("check_range",54),("check_inner",55),("index_ranges",57),("fixed_bounds",58),("array_fitted",59),("fit_value",60),("evaluate",62),("held_at",66),("told_value",68),("elaborated",69),("choices_told",71),("spread_values",72),("empty_rows",73),("array_rows",74),("array_aggregate",75),("record_aggregate",78),("node_aggr",79),("_law_choose",83),("_law_types",84),("_law_end",85),("_law_ranges",86),("_law_parts",87),("_law_worth",88),("_law_named",89),("_law_bounds",90),("_law_spread",91),("_law_row",92),("_law_value",93),("_law_due",94)]
noncomputable def gCl:List (String×Nat):=[("CellMaker",7),("ArrayValue",8),("Type",29),("Subtype",30),("Run",64),("Limits",81)]
noncomputable def gBi:List (String×BI):=[("len",.len),("min",.min),("max",.max),("list",.list),("isinstance",.isinstance),("tuple",.lU),("str",.nF)]
noncomputable def GL:List (Str×V):=gFn.map (λ p=>(Str.ofString p.1,V.fn p.2))++(gCl.map (λ p=>(Str.ofString p.1,V.cls p.2))++(gBi.map (λ p=>(Str.ofString p.1,V.bi p.2))++
 [(Str.ofString "OTHERS",V.str "others"),(Str.ofString "SCALAR_KINDS",V.tup [.str "enum",.str "int",.str "mod",.str "fixed",.str "universal"])]))
noncomputable def gg(x:Str):Option V:=GL.lookup x
noncomputable def cC(a:List (Str×NameKind))(x:Str):Option Nat:=(a.map (·.1)).idxOf? x
noncomputable def cG(a:List (Str×NameKind))(x:Str):Bool:=a.lookup x==some .globalImplicit
noncomputable def nM(x:Str):Bool:=x != "__debug__" &&x != "__classdict__" &&x != "super"
noncomputable def iD(sc:List (Str×NameKind))(x:Str):Bool:=sc.lookup x==some .local || sc.lookup x==some .cell
noncomputable def oB{α:Type}(b:Bool)(o:Option α):Option α:=match b with
 |true=>o
 |false=>none
noncomputable def dS{α a:Type}(f:α->Option a):List α->Option (List a)
 | []=>some []
 |x::r=>(f x).bind λ y=>(dS f r).map (y:: ·)
noncomputable def n7(e:Expr):Option Str:=if h:e.ctorIdx=23 then Expr.Name.elim e h (λ x _=>some x)else none
noncomputable def yd(e:Expr):Option (Expr×List Expr×List Keyword):=if h:e.ctorIdx=16 then Expr.Call.elim e h (λ f b a _=>some (f,b,a))else none
noncomputable def jY(e:Expr):Option (Expr×Str×Pos):=if h:e.ctorIdx=20 then Expr.Attribute.elim e h (λ o m p=>some (o,m,p))else none
noncomputable def jF(e:Expr):Option (List Expr):=if h:e.ctorIdx=25 then Expr.Tuple.elim e h (λ a _ _=>some a)else none
noncomputable def pj(e:Expr):Option (Option Expr×Option Expr×Option Expr):=if h:e.ctorIdx=26 then Expr.Slice.elim e h (λ a b c _=>some (a,b,c))else none
noncomputable def wA(e:Expr):Option (Expr×Expr):=if h:e.ctorIdx=21 then Expr.Subscript.elim e h (λ a i _=>some (a,i))else none
noncomputable def pk(e:Expr):Option Const:=if h:e.ctorIdx=19 then Expr.Constant.elim e h (λ c _ _=>some c)else none
noncomputable def Kf:Const->Option Str
 | .str s=>some s
 |_=>none
noncomputable def Qw:Const->Option Int
 | .int s=>some s
 |_=>none
noncomputable def HL:V->Option Nat
 | .cls k=>some k
 |_=>none
noncomputable def KJ(a:List (Str×NameKind))(e:Expr):Option Nat:=(n7 e).bind λ x=>oB (iD a x) (cC a x)
noncomputable def rj(a:List (Str×NameKind))(e:Expr):Option T:=match jF e with
 |some b=>(dS (KJ a) b).map .m
 |none=>(KJ a e).map .one
noncomputable def QG:Operator->Bool
 | .Add| .Sub| .Mult| .Mod| .FloorDiv| .LShift=>true
 |_=>false
noncomputable def EE(a:List (Str×NameKind))(x:Str)(e:Expr):Bool:=match n7 e with
 |some y=>cG a y&&y==x
 |none=>false
noncomputable def QN(a:List (Str×NameKind))(x:Str)(e:Expr):Option (List Expr):=(yd e).bind λ q=>oB (EE a x q.1&&q.2.2.isEmpty) (some q.2.1)
noncomputable def AN(a:List (Str×NameKind))(f:Expr)(b:List Expr):Option (Expr×Expr):=oB (EE a "list" f) ((one b).bind fun r=>(QN a "range" r).bind yn)
noncomputable def yo(d:List (Str×NameKind))(k:Expr→Option E)(e:Expr):Option o6:=match QN d "range" e with
 |some c=>(match one c with
  |some b=>(k b).map λ b=>.inr (none,b)
  |none=>(yn c).bind λ q=>(k q.1).bind λ a=>(k q.2).map λ b=>.inr (some a,b))
 |none=>(k e).map .inl
noncomputable def qN(a:List (Str×NameKind))(x:Str×NameKind):Option (Option Nat):=match x.2==.free with
 |true=>oB (a.lookup x.1==some .cell) ((cC a x.1).map some)
 |false=>some none
noncomputable def DX(a:Scope):Bool:=a.kind==.function&&a.names.all λ x=>(x.2==.local || x.2==.free || x.2==.globalImplicit)&&a.names.lookup x.1==some x.2
noncomputable def FJ(k:Nat)(x:Str):Option (List V×List V):=oB (k==81&&x== "members") (some ([.int 32,.int 1000000,.int 50],[.int 100000,.int 50]))
noncomputable def pv(a:List (Str×NameKind))(x:Str):Option E:=oB (nM x) (match cG a x with
 |true=>(gg x).map .k
 |false=>(cC a x).map .v)
noncomputable def Hb:Const->Option E
 | .none=>some (.k .none)
 | .bool b=>some (.k (.bool b))
 | .int i=>some (.k (.int i))
 | .str s=>some (.k (.str s))
 |_=>none
noncomputable def Ug(b:UnaryOp)(a:E):Option E:=match b with
 | .USub=>some (.neg a)
 | .Not=>some (.not a)
 |_=>none
noncomputable def H0(a:BoolOp)(q:E×E):E:=match a with
 | .And=>.p q.1 q.2
 | .Or=>.q q.1 q.2
noncomputable def Bl(a:E)(ops:List CmpOp)(d:List E):Option E:=match one ops with
 |some o=>(one d).map (.c o a)
 |none=>(yn ops).bind λ o=>(yn d).map λ b=>.ut a o.1 b.1 o.2 b.2
noncomputable def LD(k:Expr->Option E)(a:E)(q:Option Expr×Option Expr×Option Expr):Option E:=match q.2.2 with
 |some _=>none
 |none=>match q.1 with
  |some x=>(match q.2.1 with
   |some _=>none
   |none=>(k x).map λ x=>.sl a (some x) none)
  |none=>q.2.1.bind λ y=>(k y).map λ y=>.sl a none (some y)
noncomputable def Bk(k:Expr->Option E)(b:List (Option Expr))(a:List Expr):Option E:=match b with
 | []=>(match a with
  | []=>some .emptyDict
  |_::_=>none)
 |_::_=>(one b).bind λ o=>o.bind λ e=>(pk e).bind λ c=>(Kf c).bind λ x=>(one a).bind λ v=>(k v).map (.fS x)
noncomputable def LF(k:Expr->Option E)(a:List (Str×NameKind))(f:Expr)(e:List Expr)(d:List Keyword):Option E:=oB e.isEmpty ((one d).bind λ q=>(n7 f).bind λ y=>oB (nM y&&cG a y) ((gg y).bind λ v=>(HL v).bind λ c=>q.arg.bind λ b=>(FJ c b).bind λ r=>(k q.value).map λ x=>.sN c r.1 x r.2))
noncomputable def wZ(k:Expr->Option E)(c:List (Str×NameKind))(f:Expr)(b:List Expr)(p:Pos):Option E:=match jY f with
 |some q=>oB (q.2.2.endLine==p.line&&decide (b.length<3)) ((k q.1).bind λ o=>(nN.idxOf? q.2.1).bind λ m=>(dS k b).map (.fY o m))
 |none=>match AN c f b with
  |some q=>(k q.1).bind λ a=>(k q.2).map (.pZ a)
  |none=>(k f).bind λ f=>(dS k b).map (.call f)
noncomputable def yq(k:List (Str×NameKind)->Expr->Option E)(b d:List (Str×NameKind))(c:Comprehension):Option (T×o6×List E):=oB (c.is_async==0) ((yo b (k b) c.iter).bind λ e=>(rj d c.target).bind λ t=>(dS (k d) c.ifs).map λ a=>(t,e,a))
noncomputable def py(k:List (Str×NameKind)->Expr->Option E)(g:List (Str×NameKind))(f:Expr)(e:List Comprehension)(d:Scope):Option E:=match e with
 | []=>none
 |c::r=>oB (DX d) ((dS (qN g) d.names).bind λ h=>(yq k g d.names c).bind λ a=>(dS (yq k d.names d.names) r).bind λ b=>(k d.names f).map λ x=>.comp h x (a::b))
noncomputable def dD:Nat->List (Str×NameKind)->Expr->Option E
 |0,_,_=>none
 |n+1,d,e=>match e with
  | .Name x _=>pv d x
  | .Constant c _ _=>Hb c
  | .BinOp a h b _=>oB (QG h) ((dD n d a).bind λ a=>(dD n d b).map (.b h a))
  | .UnaryOp h a _=>(dD n d a).bind (Ug h)
  | .BoolOp h k _=>((dS (dD n d) k).bind yn).map (H0 h)
  | .Compare a ops w _=>(dD n d a).bind λ a=>(dS (dD n d) w).bind (Bl a ops)
  | .IfExp c a b _=>(dD n d c).bind λ c=>(dD n d a).bind λ a=>(dD n d b).map (.ite c a)
  | .Tuple k _ _=>(dS (dD n d) k).map .tup
  | .List k _=>(dS (dD n d) k).map .l
  | .Dict v u _=>Bk (dD n d) v u
  | .Subscript a i _=>(dD n d a).bind λ a=>match pj i with
   |some q=>LD (dD n d) a q
   |none=>(dD n d i).map (.i a)
  | .Attribute a m _=>(dD n d a).bind λ a=>(bH.idxOf? m).map (.t a)
  | .Call f s r p=>(match r with
   | []=>wZ (dD n d) d f s p
   |_::_=>LF (dD n d) d f s r)
  | .ListComp o j g _=>py (λ d e=>dD n d e) d o j g
  |_=>none
noncomputable def jQ(e:Expr):Bool:=Nat.beq e.ctorIdx 8
noncomputable def Bm(k:Expr->Option E)(b:List (Str×NameKind))(t e:Expr):Option S:=match wA t with
 |some q=>oB (!jQ e) ((k q.1).bind λ a=>(k q.2).bind λ i=>(k e).map (.dc a i))
 |none=>match jY t with
  |some q=>oB (!jQ e) ((k q.1).bind λ a=>(bH.idxOf? q.2.1).bind λ m=>(k e).map (.aC a m))
  |none=>oB (!((jF t).isSome&& (jF e).isSome)) ((rj b t).bind λ t=>(k e).map (.a t))
noncomputable def Hc(k:Expr->Option E)(c:List (Str×NameKind))(t:Expr)(b:Operator)(e:Expr):Option S:=oB (b==.Add) (match wA t with
 |some q=>(k q.1).bind λ a=>(k q.2).bind λ i=>(k e).map (.mv a i b)
 |none=>(n7 t).bind λ x=>oB (iD c x&&nM x) ((cC c x).bind λ i=>(k e).map (.lz i b)))
noncomputable def yp(k:Expr→Option E)(b:List (Str×NameKind))(e:Expr):Option S:=(QN b "AdaRaise" e).bind fun f=>match f with
 | []=>none
 |a::r=>(yn r).bind λ q=>(pk a).bind λ c=>(Kf c).bind λ w=>(pk q.1).bind λ d=>(Qw d).bind λ i=>oB (i==0) ((k q.2).map (.raise w))
noncomputable def oS:Option S->S
 |some s=>s
 |none=>.bad
noncomputable def nG:Nat->List (Str×NameKind)->Stmt->S
 |0,_,_=>.bad
 |n+1,d,s=>match s with
  | .Assign g e _=>oS ((one g).bind λ t=>Bm (dD n d) d t e)
  | .AugAssign t h e _=>oS (Hc (dD n d) d t h e)
  | .Expr e _=>oS (oB (!jQ e) ((dD n d e).map .e))
  | .If c a b _=>oS ((dD n d c).map λ c=>.ez c (a.map (nG n d)) (b.map (nG n d)))
  | .For t f b e _=>oS (oB e.isEmpty ((rj d t).bind λ t=>(yo d (dD n d) f).map λ f=>.ek t f (b.map (nG n d))))
  | .While c _ e _=>oS (oB e.isEmpty ((dD n d c).map .nA))
  | .Return e _=>oS (match e with
   |none=>some (.ret none)
   |some e=>(dD n d e).map λ e=>.ret (some e))
  | .Raise e c _=>oS (e.bind λ e=>oB c.isNone (yp (dD n d) d e))
  | .Continue _=>.cont
  |_=>.bad
noncomputable def zO(b:Arguments)(body:List Stmt)(c:Scope):Option Fn:=(dS (λ a=>cC c.names a.arg) b.args).map λ d=>⟨d,c.names.length,body.map (nG 60 c.names)⟩
end
section
open PySem
set_option genInjectivity false
set_option genSizeOf false
abbrev wI:=List Addr
structure Places where
 fa:Nat->Addr
 ca:Nat->Addr
 cl:Option Addr
 tl:FuncData->Prop
 sc:Addr->List Int->Prop
structure Th where
 P:Places
 prog:Program
 w:World
 base:Heap
structure Z where
 φ:wI
 own:Addr->Option Nat
 σ:St
 s:Shared
noncomputable def ux:BI->Value
 | .len=>.builtin "len" | .min=>.builtin "min" | .max=>.builtin "max" | .list=>.type "list" | .isinstance=>.builtin "isinstance" | .lU=>.type "tuple" | .nF=>.type "str"
mutual
inductive RV(P:Places)(h:Heap)(φ:wI):V->Value->Prop
 |none:RV P h φ .none .none
 |bool (b:Bool):RV P h φ (.bool b) (.bool b)
 |int (i:Int) (t:Tok):RV P h φ (.int i) (.int i t)
 |str (s:Str) (t:Tok):RV P h φ (.str s) (.str s t)
 |tup {vs:List V} {ws:List Value} {a:Addr}:h.IsTuple a ws.toArray->et P h φ vs ws->RV P h φ (.tup vs) (.ref a)
 |ref {i:Nat} {a:Addr}:φ[i]?= some a->RV P h φ (.ref i) (.ref a)
 |fn (k:Nat):RV P h φ (.fn k) (.ref (P.fa k))
 |cls (k:Nat):RV P h φ (.cls k) (.ref (P.ca k))
 |bi (b:BI):RV P h φ (.bi b) (ux b)
 |ke {is:List Int} {a:Addr}:P.sc a is->RV P h φ (.ke is) (.ref a)
inductive et(P:Places)(h:Heap)(φ:wI):List V->List Value->Prop
 |nil:et P h φ [] []
 |cons {v:V} {vs:List V} {w:Value} {ws:List Value}:RV P h φ v w->et P h φ vs ws->et P h φ (v::vs) (w::ws)
end
noncomputable def RZ(θ:Th)(z:Z)(v:V)(u:Value):Prop:=RV θ.P z.s.heap z.φ v u
noncomputable def j0(θ:Th)(z:Z)(v:List V)(u:List Value):Prop:=et θ.P z.s.heap z.φ v u
inductive qU(R:V->Value->Prop):Option V->Option Value->Prop
 |none:qU R none none
 |some {v:V} {w:Value}:R v w->qU R (some v) (some w)
section
variable{P:Places}{h h' Gc:Heap}{φ Ez:wI}
noncomputable def kn(o:Obj):Prop:=o.cls=.type "tuple" →∀c n,o.data≠ .seq c n
theorem kn.of(h:o.cls≠ .type "tuple"):kn o:=fun e=>absurd e h
noncomputable def dW(h h':Heap):Prop:=∀a c,h.IsTuple a c->h'.IsTuple a c
theorem dW.refl:dW h h:=λ _ _ x=>x
theorem lW{i:Nat}{a:Addr}(e:φ <+: Ez)(x:φ[i]?= some a):Ez[i]?= some a:=by
 rwa[aW e,r c];try clear e;subst c
 exact aU (List.getElem?_append_left (cw.mp x).1) x
theorem RV.mono(k:dW h h')(e:φ <+: Ez){v:V}{w:Value}(r:RV P h φ v w):RV P h' Ez v w:=
 RV.rec (motive_1:=λ v w _=>RV P h' Ez v w) (motive_2:=λ v w _=>et P h' Ez v w) .none .bool .int .str (λ x _ y=>.tup (k _ _ x) y) (λ x=>.ref (lW e x)) .fn .cls .bi .ke .nil (λ _ _ x y=>.cons x y) r
theorem et.mono(k:dW h h')(e:φ <+: Ez){v:List V}{w:List Value}(r:et P h φ v w):et P h' Ez v w:=
 et.rec (motive_1:=λ v w _=>RV P h' Ez v w) (motive_2:=λ v w _=>et P h' Ez v w) .none .bool .int .str (λ x _ y=>.tup (k _ _ x) y) (λ x=>.ref (lW e x)) .fn .cls .bi .ke .nil (λ _ _ x y=>.cons x y) r
theorem et.ind{m:List V->List Value->Prop}(n:m [] [])(c:∀ {v f w d},RV P h φ v w->et P h φ f d->m f d->m (v::f) (w::d)){f:List V}{d:List Value}(r:et P h φ f d):m f d:=
 et.rec (motive_1:=λ _ _ _=>True) (motive_2:=λ v w _=>m v w) trivial (λ _=>trivial) (λ _ _=>trivial) (λ _ _=>trivial) (λ _ _ _=>trivial) (λ _=>trivial) (λ _=>trivial) (λ _=>trivial) (λ _=>trivial) (λ _=>trivial) n (λ x y _ e=>c x y e) r
theorem et.length{d:List V}{c:List Value}(r:et P h φ d c):d.length=c.length:=r.ind (m:=λ d c=>d.length=c.length) rfl λ _ _ e=>congrArg (· +1) e
theorem et.get{d:List V}{c:List Value}(r:et P h φ d c):∀ {j:Nat} {v:V},d[j]?= some v->∃w,c[j]?= some w/\RV P h φ v w:=
 r.ind (m:=λ d c=>∀ {j:Nat} {v:V},d[j]?= some v->∃w,c[j]?= some w/\RV P h φ v w) (λ e=>aD (e)) λ x _ f j _ e=>by
  induction j with
  |zero=>exact(aw _ rfl (an e▸x))
  |succ j=>exact f e
theorem et.append{d f:List V}{c e:List Value}(r:et P h φ d c)(y:et P h φ f e):et P h φ (d++f) (c++e):=r.ind (m:=λ d c=>et P h φ (d++f) (c++e)) y λ x _ g=>.cons x g
theorem et.one(x:RV P h φ v w):et P h φ [v] [w]:=.cons x .nil
theorem et.set{d:List V}{c:List Value}(r:et P h φ d c){v:V}{w:Value}(z:RV P h φ v w):∀ (j:Nat),et P h φ (d.set j v) (c.set j w):=
 r.ind (m:=λ d c=>∀ (j:Nat),et P h φ (d.set j v) (c.set j w)) (λ _=>.nil) λ x y e j=>by
  induction j with
  |zero=>exact .cons z y
  |succ j=>exact .cons x (e j)
theorem et.drop{d:List V}{c:List Value}(r:et P h φ d c):∀n,et P h φ (d.drop n) (c.drop n):=
 r.ind (m:=λ d c=>∀n,et P h φ (d.drop n) (c.drop n)) (λ n=>by erw[List.drop_nil,List.drop_nil];exact .nil) λ x y e n=>by
  induction n with
  |zero=>exact .cons x y
  |succ n=>exact e n
theorem et.take{d:List V}{c:List Value}(r:et P h φ d c):∀n,et P h φ (d.take n) (c.take n):=
 r.ind (m:=λ d c=>∀n,et P h φ (d.take n) (c.take n)) (λ n=>by erw[List.take_nil,List.take_nil];exact .nil) λ x _ e n=>by
  induction n with
  |zero=>exact .nil
  |succ n=>exact .cons x (e n)
theorem et.replicate(x:RV P h φ v w):∀n,et P h φ (List.replicate n v) (List.replicate n w)
 |0=>.nil
 |n+1=>.cons x (et.replicate x n)
theorem qU.imp(x:qU R a b)(k:∀v w,R v w->c v w):qU c a b:=by
 induction x with
 |none=>exact .none
 |some x=>exact .some (k _ _ x)
end
structure Ku(P:Places)(fd:FuncData)(c:Addr):Prop where
 closure:fd.closure=[(Str.ofString "told",c)]
 tl:P.tl fd
structure HO(θ:Th)(z:Z)(a:Addr)(l:Nat)(b c cc:Addr)(o:Obj)(fd:FuncData):Prop where
 told:z.φ[l]?= some b
 free:z.own c=none
 cl:θ.P.cl=some c
 cell:z.s.heap.IsCell c (some (.ref b))
 at_:z.s.heap.get? a=some o
 Qq:z.own cc=none
 data:o.data=.func fd
 Uh:Ku θ.P fd c
 code:fd.code=.ref cc
 rm:z.s.heap.CodeRec fd.code fd.qualname
noncomputable def RO(θ:Th)(z:Z)(i:Nat)(a:Addr):d4->Prop
 | .list g=>g.length<=1000000/\∃f:List Value,z.s.heap.PlainList a f.toArray/\j0 θ z g f
 | .inst k p=>∃o n e,z.s.heap.get? a=some o/\o.dict=some n/\z.own n=some i/\z.s.heap.Inst a (θ.P.ca k) e/\(∀x,e x≠none->x∈bH)/\∀j x,bH[j]?= some x->qU (RZ θ z) (p.lookup j) (e x)
 | .dM d=>z.s.heap.DictLe a d.length/\∃m:Int->Option Value,z.s.heap.MapOf (intKind θ.prog θ.w) a m/\∀k,qU (RZ θ z) ((d.find? (·.1==k)).map (·.2)) (m k)
 | .fS d=>∃m:Str->Option Value,z.s.heap.MapOf (strKind θ.prog θ.w) a m/\∀k,qU (RZ θ z) ((d.find? (·.1==k)).map (·.2)) (m k)
 | .tell l=>∃b c r o q,HO θ z a l b c r o q
noncomputable def Ep(h:Heap)(a:Addr)(d:List Int):Prop:=d.length<=1000000/\∃c:List Value,h.IsList a c.toArray/\PyProof.Rows.IntsAre c d
structure ec(θ:Th)(z:Z):Prop where
 len:z.φ.length=z.σ.length
 obj:∀i o a,z.σ[i]?= some o->z.φ[i]?= some a->z.own a=some i/\RO θ z i a o
 old:∀b o,θ.base.get? b=some o->z.s.heap.get? b=some o
 lo:∀b i,z.own b=some i->θ.base.get? b=none
 there:∀b i,z.own b=some i->∃o,z.s.heap.get? b=some o/\kn o
structure q8(L:Addr->Prop)(z z':Z):Prop where
 pre:z.φ <+: z'.φ
 ext:∀b i,z.own b=some i->z'.own b=some i
 new:∀b i,z.own b=none->z'.own b=some i->z.s.heap.get? b=none
 keep:∀b o,¬ L b->z.own b=none->z.s.heap.get? b=some o->z'.s.heap.get? b=some o
 there:∀b o,z.own b=none->z.s.heap.get? b=some o->∃o',z'.s.heap.get? b=some o'/\((∀vs,o.data≠ .fields vs)->∀vs,o'.data≠ .fields vs)
 tup:dW z.s.heap z'.s.heap
 gens:z'.s.gens=z.s.gens
 os:z'.s.os=z.s.os
noncomputable def eH:Addr->Prop:=λ _=>False
structure Nx(θ:Th)(L:Addr->Prop)(z z':Z):Prop where
 sim:ec θ z'
 go:q8 L z z'
structure Xu(θ:Th)(z z':Z)(j:Nat):Prop where
 tk:dW z.s.heap z'.s.heap
 pre:z.φ <+: z'.φ
 Mc:∀b,z.own b=some j->z'.s.heap.get? b=z.s.heap.get? b
 none:∀b o,z.own b=none->z.s.heap.get? b=some o->(θ.P.cl=some b/\∃v,o.data=.cell v)∨(∃vs q t,o.data=.fields vs/\vs[1]?= some (.str q t))->z'.s.heap.get? b=some o/\z'.own b=none
 ext:∀b i,z.own b=some i->z'.own b=some i
section
variable{θ:Th}{z z' rg:Z}{i j:Nat}{a b:Addr}{o:d4}{s':Shared}
theorem RZ.kp(K:Xu θ z z' j)(r:RZ θ z v u):RZ θ z' v u:=RV.mono K.tk K.pre r
theorem G2{h h':Heap}{x C c:Addr}{e:Str->Option Value}{o:Obj}(I:h.Inst x C e)(s:h.get? x=some o)(r:o.dict=some c)(u:h'.get? x=h.get? x)(t:h'.get? c=h.get? c):h'.Inst x C e:=by
 rwa[dR I,g f p n m,-I];obtain rfl:o=g:=an (s.symm.trans f);refine(dP o (u.trans f) p n (m.imp id ?_))
 rintro ⟨d,q,k,l⟩
 obtain rfl:c=d:=an (r.symm.trans q);exact(cR c q k (l.at λ o z=>t.trans z))
theorem RO.keep(K:Xu θ z z' j)(B:z.own a=some j)(x:RO θ z j a o):RO θ z' j a o:=by
 have e:=K.Mc a B
 induction o with
 |list f=>exact⟨x.1,x.2.imp λ Y y=>⟨by unfold Heap.PlainList;exact aU e y.1,y.2.mono K.tk K.pre⟩⟩
 |inst c fs=>rwa[qB x,o q w p n g I b y,-x];exact(qi o q w (e.trans p) n (K.ext _ _ g) (G2 I p n e (K.Mc q g)) b (λ j x A=>(y j x A).imp λ _ _=>.kp K))
 |dM H=>exact⟨by unfold Heap.DictLe;exact aU e x.1,x.2.imp λ m y=>⟨by unfold Heap.MapOf;exact aU e y.1,λ k=>(y.2 k).imp λ _ _=>.kp K⟩⟩
 |fS H=>exact x.imp λ m y=>⟨by unfold Heap.MapOf;exact aU e y.1,λ k=>(y.2 k).imp λ _ _=>.kp K⟩
 |tell l=>obtain ⟨b,c,O,o,G,x⟩:=x;obtain ⟨v,Q,u⟩:=x.cell;rwa[mr x.rm,d U f t s J r];obtain rfl:d=O:=Value.ref.inj (s.symm.trans x.code);have k:=K.none _ _ x.free Q (.inl ⟨x.cl,_,u⟩);have l:=K.none _ _ x.Qq J (.inr (Ah _ _ _ r));exact(Jc b c d o G ⟨lW K.pre x.told,k.2,x.cl,(aw v k.1 u),e.trans x.at_,l.2,x.data,x.Uh,x.code,(tW d U f t s l.1 r)⟩)
theorem uR(k:∀a o,(¬ kn o)->h.get? a=some o->h'.get? a=some o):dW h h':=λ a d ⟨o,l,f⟩=>(aw o (k a o (λ n=>by rwa[aK f,c g];try clear f;rwa[aW g,m e,-g];exact n c _ m e) l) f)
theorem ec.L7(S:ec θ z){o:Obj}(e:z.s.heap.get? a=some o)(n: ¬ kn o):z.own a=none:=by
 generalize q:z.own a=f;induction f with
 |none=>rfl
 |some i=>exact ac (S.there a i q) λ g d c=>absurd (by exact aU (an (e.symm.trans d)) c) n
theorem q8.of(S:ec θ z)(pre:z.φ <+: z'.φ)(ext:∀b i,z.own b=some i->z'.own b=some i)(new:∀b i,z.own b=none->z'.own b=some i->z.s.heap.get? b=none)
  (keep:∀b o,z.own b=none->z.s.heap.get? b=some o->z'.s.heap.get? b=some o) (gens:z'.s.gens=z.s.gens) (os:z'.s.os=z.s.os):q8 L z z':=
 ⟨pre,ext,new,λ b o _=>keep b o,λ b o e h=>(aw o (keep b o e h) id),uR λ a o n e=>keep a o (S.L7 e n) e,gens,os⟩
variable{L:Addr->Prop}
theorem q8.refl:q8 L z z:=⟨List.prefix_refl _,λ _ _ e=>e,λ _ _ e c=>(aD (e.symm.trans c)),λ _ _ _ _ e=>e,λ _ o _ e=>(aw o e id),.refl,rfl,rfl⟩
theorem q8.stays(g:q8 L z z'){o:Obj}(c:z.s.heap.get? b=some o)(e:z.own b=none):z'.own b=none:=by
 generalize q:z'.own b=d;induction d with
 |none=>rfl
 |some i=>exact dk (c.symm.trans (g.new b i e q))
theorem q8.trans(x:q8 L z z')(y:q8 L z' rg):q8 L z rg where
 pre:=x.pre.trans y.pre
 ext b i e:=y.ext b i (x.ext b i e)
 new b i e f:=by
  generalize d:z.s.heap.get? b=g;induction g with
  |none=>rfl
  |some o=>exact(x.there b o e d).elim λ c h=>dk (f.symm.trans (y.stays h.1 (x.stays d e)))
 keep b o l e h:=y.keep b o l (x.stays h e) (x.keep b o l e h)
 there b o e h:=(x.there b o e h).elim λ c q=>(y.there b c (x.stays h e) q.1).imp λ _ r=>⟨r.1,λ n=>r.2 (q.2 n)⟩
 tup a i h:=y.tup a i (x.tup a i h)
 gens:=y.gens.trans x.gens
 os:=y.os.trans x.os
theorem q8.wide(x:q8 eH z z'):q8 L z z':=⟨x.pre,x.ext,x.new,λ b o _=>x.keep b o id,x.there,x.tup,x.gens,x.os⟩
theorem Nx.trans(x:Nx θ L z z')(y:Nx θ L z' rg):Nx θ L z rg:=⟨y.sim,x.go.trans y.go⟩
theorem Nx.refl(S:ec θ z):Nx θ L z z:=⟨S,.refl⟩
theorem Nx.wide(x:Nx θ eH z z'):Nx θ L z z':=⟨x.sim,x.go.wide⟩
theorem RZ.go(r:RZ θ z v u)(g:Nx θ L z z'):RZ θ z' v u:=RV.mono g.go.tup g.go.pre r
theorem j0.go(r:j0 θ z v u)(g:Nx θ L z z'):j0 θ z' v u:=et.mono g.go.tup g.go.pre r
theorem ec.Iy(S:ec θ z){o:Obj}(e:θ.base.get? b=some o):z.own b=none:=by
 generalize q:z.own b=c;induction c with
 |none=>rfl
 |some i=>exact dk (e.symm.trans (S.lo b i q))
theorem ec.fresh(S:ec θ z)(e:z.s.heap.get? b=none):z.own b=none/\θ.base.get? b=none:=by
 constructor
 ·generalize q:z.own b=c;induction c with
  |none=>rfl
  |some i=>exact(S.there b i q).elim λ o h=>aD (e.symm.trans h.1)
 ·generalize q:θ.base.get? b=d;induction d with
  |none=>rfl
  |some o=>exact aD (e.symm.trans (S.old b o q))
theorem Fo(e:x=none):x≠some i:=λ q=>aD (e.symm.trans q)
theorem ec.write(S:ec θ z)(n:z.φ[i]?= some a)(w:z.own a=some i)(d:∀b o,z.own b≠some i->z.s.heap.get? b=some o->s'.heap.get? b=some o)(v:s'.gens=z.s.gens)(B:s'.os=z.s.os)
  (u:∀b,z.own b=some i->∃ob,s'.heap.get? b=some ob/\kn ob) (x:dW z.s.heap s'.heap->RO θ ⟨z.φ,z.own,z.σ.set i o,s'⟩ i a o):Nx θ eH z ⟨z.φ,z.own,z.σ.set i o,s'⟩:=by
 have k:∀b o,z.own b=none->z.s.heap.get? b=some o->s'.heap.get? b=some o:=λ b o e=>d b o (Fo e);have g:q8 eH z ⟨z.φ,z.own,z.σ.set i o,s'⟩:=.of S (List.prefix_refl _) (λ _ _ e=>e) (λ _ _ e A=>(aD (e.symm.trans A))) k v B;have m:=g.tup;refine⟨⟨S.len.trans List.length_set.symm,λ j t b e f=>?_,λ b o e=>k b o (S.Iy e) (S.old b o e),S.lo,λ b j e=>?_⟩,g⟩
 ·by_cases q:i=j
  ·subst q;obtain rfl:a=b:=an (n.symm.trans f);have e:=e;rw[List.getElem?_set_self (S.len▸ (cw.mp n).1)]at e;obtain rfl:=an (e);exact⟨w,x m⟩
  ·rwa[aK (S.obj j t b ((List.getElem?_set_ne q).symm.trans e) f),l p];refine⟨l,p.keep ⟨m,List.prefix_refl _,λ b e=>?_,λ b o e h _=>⟨k b o e h,e⟩,λ _ _ e=>e⟩ l⟩;exact ac (S.there b j e) λ ob c _=>(d b ob (λ r=>q (an (r.symm.trans e))) c).trans c.symm
 ·by_cases q:j=i
  ·subst q;exact u b e
  ·exact ac (S.there b j e) λ ob c y=>(aw ob (d b ob (λ r=>q (an (e.symm.trans r))) c) y)
noncomputable def de(c:Addr->Option Nat)(a:Addr)(n:Nat):Addr->Option Nat:=λ b=>if b=a then some n else c b
theorem ec.alloc(S:ec θ z)(c:∀b o,z.s.heap.get? b=some o->s'.heap.get? b=some o)(v:s'.gens=z.s.gens)(H:s'.os=z.s.os)
  (d:∀b j,z.own b=some j->own' b=some j) (l:∀b j,z.own b=none->own' b=some j->j=z.σ.length/\z.s.heap.get? b=none/\∃ob,s'.heap.get? b=some ob/\kn ob)
  (w:own' a=some z.σ.length) (x:dW z.s.heap s'.heap->RO θ ⟨z.φ++[a],own',z.σ++[o],s'⟩ z.σ.length a o):Nx θ eH z ⟨z.φ++[a],own',z.σ++[o],s'⟩:=by
 have g:q8 eH z ⟨z.φ++[a],own',z.σ++[o],s'⟩:=.of S (List.prefix_append _ _) d (λ b i e y=>(l b i e y).2.1) (λ b o _=>c b o) v H;have p:=g.tup;refine⟨⟨by show(_++[_]).length=(_++[_]).length;erw[List.length_append,List.length_append,S.len];rfl,λ j u b e f=>?_,λ b o e=>c b o (S.old b o e),λ b j e=>?_,λ b j e=>?_⟩,g⟩
 ·have e:=e;have f:=f;rcases Nat.lt_or_ge j z.σ.length with q|q
  ·rw[List.getElem?_append_left q]at e;rw[List.getElem?_append_left (S.len▸q)]at f;exact aK (S.obj j u b e f) λ m t=>⟨d _ _ m,t.keep ⟨p,g.pre,λ b e=>(S.there b j e).elim λ ob h=>(c b ob h.1).trans h.1.symm,λ b o e h _=>⟨c b o h,g.stays h e⟩,d⟩ m⟩
  ·rw[List.getElem?_append_right q]at e;rw[List.getElem?_append_right (S.len▸q),S.len]at f;obtain rfl:j=z.σ.length:=by
    generalize r:j - z.σ.length=A;induction A with
    |zero=>exact Nat.le_antisymm (Nat.sub_eq_zero_iff_le.mp r) q
    |succ n=>rw[r]at e;cases e
   rw[Nat.sub_self]at e f;obtain rfl:=an (e);obtain rfl:=an (f);exact⟨w,x p⟩
 ·generalize q:z.own b=B;induction B with
  |none=>exact(S.fresh (l b j q e).2.1).2
  |some k=>exact S.lo b k q
 ·generalize q:z.own b=G;induction G with
  |none=>exact(l b j q e).2.2
  |some k=>exact(S.there b k q).imp λ ob h=>⟨c b ob h.1,h.2⟩
theorem fX(c:Addr->Option Nat)(a:Addr)(n:Nat):de c a n a=some n:=if_pos rfl
theorem jZ(S:c a=none)(b:Addr)(j:Nat)(e:c b=some j):de c a n b=some j:=
 (if_neg λ q=>dk ((q▸e).symm.trans S)).trans e
theorem n9(d:b≠a):de c a n b=c b:=if_neg d
theorem iP(b:Addr)(j:Nat)(e:c b=none)(d:de c a n b=some j):j=n/\b=a:=by
 by_cases q:b=a
 ·subst q;exact⟨an (d.symm.trans (fX c b n)),rfl⟩
 ·rw[n9 q,e]at d;exact aD (d)
theorem ec.push(S:ec θ z)(f:∀b o,z.s.heap.get? b=some o->s'.heap.get? b=some o)(g:s'.gens=z.s.gens)(p:s'.os=z.s.os)(c:z.s.heap.get? a=none)(n:s'.heap.get? a=some ob)(d:kn ob)
  (x:dW z.s.heap s'.heap->RO θ ⟨z.φ++[a],de z.own a z.σ.length,z.σ++[o],s'⟩ z.σ.length a o):
  Nx θ eH z ⟨z.φ++[a],de z.own a z.σ.length,z.σ++[o],s'⟩/\RZ θ ⟨z.φ++[a],de z.own a z.σ.length,z.σ++[o],s'⟩ (.ref z.σ.length) (.ref a):=
 ⟨S.alloc f g p (jZ (S.fresh c).1) (λ b j e k=>by rwa[aK (iP b j e k),m l];subst m;subst l;exact(bN rfl c ⟨ob,n,d⟩)) (fX ..) x,
  .ref (by rw[List.getElem?_append_right (S.len▸Nat.le_refl _),S.len,Nat.sub_self];rfl)⟩
theorem ec.frame(S:ec θ z)(m:∀b o,z.own b≠none->z.s.heap.get? b=some o->s'.heap.get? b=some o)(p:∀b o,θ.base.get? b=some o->s'.heap.get? b=some o)(l:dW z.s.heap s'.heap)
  (n:∀b o,z.own b=none->z.s.heap.get? b=some o->(θ.P.cl=some b/\∃v,o.data=.cell v)∨(∃d q t,o.data=.fields d/\d[1]?= some (.str q t))->s'.heap.get? b=some o):ec θ ⟨z.φ,z.own,z.σ,s'⟩:=by
 have c:∀b j,z.own b=some j->∃o,z.s.heap.get? b=some o/\s'.heap.get? b=some o/\kn o:=λ b j e=>(S.there b j e).imp λ o h=>(bN h.1 (m b o (λ q=>aD (q.symm.trans e)) h.1) h.2)
 exact⟨S.len,λ j g b e f=>(S.obj j g b e f).imp id λ k=>k.keep ⟨l,List.prefix_refl _,λ b e=>(c b j e).elim λ o h=>h.2.1.trans h.1.symm,λ b o e h q=>⟨n b o e h q,e⟩,λ _ _ e=>e⟩ (S.obj j g b e f).1,
  p,S.lo,λ b j e=>(c b j e).imp λ o h=>h.2⟩
theorem ec.grown(S:ec θ z)(c:∀b o,z.s.heap.get? b=some o->s'.heap.get? b=some o)(d:s'.gens=z.s.gens)(g:s'.os=z.s.os):Nx θ eH z ⟨z.φ,z.own,z.σ,s'⟩:=
 ⟨S.frame (λ b o _=>c b o) (λ b o e=>c b o (S.old b o e)) (uR λ b o _=>c b o) λ b o _ h _=>c b o h,q8.of S (List.prefix_refl _) (λ _ _ e=>e) (λ _ _ e f=>(aD (e.symm.trans f))) (λ b o _=>c b o) d g⟩
theorem ec.list(S:ec θ z)(e:z.σ[i]?= some (.list d))(f:z.φ[i]?= some a):z.own a=some i/\d.length<=1000000/\∃c:List Value,z.s.heap.PlainList a c.toArray/\j0 θ z d c:=S.obj i _ a e f
end
end
section
open PySem PyProof.Rows
set_option genInjectivity false
set_option genSizeOf false
structure QS(θ:Th)(mg mb:Str->Option Value):Prop where
 main:θ.base.Ns mainGlobals mg
 blt:θ.base.Ns builtinsNs mb
 glob:∀x v,gg x=some v->∃u,((mg x=some u)∨(mg x=none/\mb x=some u))/\RV θ.P θ.base [] v u
 range:mg "range" =none∧mb "range" =some (.type "range")
 list:mg "list" =none∧mb "list" =some (.type "list")
 vn:θ.base.NoLimit
structure Q4(h:Heap)(C:Addr):Prop where
 at_:∃N mN,ClsAt h C N mN∧mN "__getattribute__" =none∧mN "__setattr__" =none∧∀x,x∈bH→mN x=none
structure Wd(θ:Th):Prop where
 top:∃mg mb,QS θ mg mb
 cls:∀k,Fd k=true->Q4 θ.base (θ.P.ca k)
 sys:θ.base.get? sysModules≠none
 ke:∀a is,θ.P.sc a is->Ep θ.base a is
structure Fm where
 A:Around
 env:PySem.Env
 sc:List (Str×NameKind)
structure lH(θ:Th)(f:Fm):Prop where
 kind:f.env.scope.kind=.function
 kinds:∀x k,f.sc.lookup x=some k->k≠ .free->f.env.kindOf x=some k
 globals:f.env.globals=mainGlobals
 builtins:f.env.builtins=builtinsNs
 how:∀x i,cG f.sc x=false->cC f.sc x=some i->f.env.kindOf x=some .local∨((f.env.kindOf x=some .cell∨f.env.kindOf x=some .free)/\∃c,f.env.cells.lookup x=some c)
 yG:θ.base.get? f.env.locals=none
 zA:∀x c,f.sc.lookup x=some .cell->f.env.cells.lookup x=some c->θ.P.cl≠some c/\θ.base.get? c=none
 apart:∀x y c,f.env.cells.lookup x=some c->f.env.cells.lookup y=some c->x=y
 handled:f.A.handled=none
noncomputable def lF(θ:Th)(f:Fm)(ρ:Env)(z:Z)(x:Str)(o:Option Value):Prop:=
 ∀i v,cG f.sc x=false->cC f.sc x=some i->ρ[i]?= some (some v)->∃u,o=some u/\RZ θ z v u
structure d7(θ:Th)(f:Fm)(ρ:Env)(z:Z):Prop where
 ns:∃m,z.s.heap.Ns f.env.locals m/\∀x,f.env.kindOf x=some .local->lF θ f ρ z x (m x)
 cells:∀x c,f.env.cells.lookup x=some c->z.own c=none/\∃uO,z.s.heap.IsCell c uO/\(f.env.kindOf x≠some .local->lF θ f ρ z x uO)
 len:ρ.length=f.sc.length
 pU:z.own f.env.locals=none
noncomputable def fE(θ:Th)(z:Z)(q:Addr):Prop:=z.own q=none/\θ.base.get? q=none/\∃o,z.s.heap.get? q=some o/\∀a,o.data≠ .fields a
noncomputable def lG(θ:Th)(z:Z):List PySem.Env->Prop
 | []=>True
 |env::r=>(env.scope.kind≠ .module/\∃L,env.frame=some L/\fE θ z L)/\lG θ z r
structure pn(θ:Th)(A:Around)(n:Nat)(z:Z):Prop where
 depth:A.depth+2 * n<=900
 units:A.units+20 * n<=8000
 frames:∃l,A.frames=some l/\lG θ z l
 GO:∀q,θ.P.cl=some q->fE θ z q
structure Cx(θ:Th)(f:Fm)(n:Nat)(ρ:Env)(z:Z):Prop where
 st:lH θ f
 a:pn θ f.A n z
 e:d7 θ f ρ z
 s:ec θ z
structure AQ(θ:Th)(z:Z)(a:Addr)(wd:Str)(d:Addr)(vs:Array Value)(oe:Obj)(mA:Str->Option Value):Prop where
 at_:z.s.heap.get? a=some oe
 cls:oe.cls=.ref (θ.P.ca 4)
 dict:oe.dict=some d
 ne:d≠a
 ns:z.s.heap.Ns1 d mA
 word:∃t,mA "word" =some (.str wd t)
 data:oe.data=.fields vs
 own:z.own a=none/\z.own d=none
 base:θ.base.get? a=none/\θ.base.get? d=none
 jd:mA "due" =none
structure QZ(θ:Th)(z:Z)(a d:Addr)(vs:Array Value)(T:Addr)(oT:Obj)(ts:Array Value)(y:Value):Prop where
 rm:vs[1]?= some (.ref T)
 ne:T≠a/\T≠d
 own:z.own T=none
 base:θ.base.get? T=none
 at_:z.s.heap.get? T=some oT
 data:oT.data=.fields ts
 flag:ts[3]?= some y
noncomputable def wJ(θ:Th)(z:Z)(a:Addr)(e:Str):Prop:=∃d c h j,AQ θ z a e d c h j/\(c[1]?= some .none∨∃T i g y,QZ θ z a d c T i g y)
structure oa(θ:Th)(z:Z):Prop where
 len:z.φ.length=z.σ.length
 obj:∀i vs a,z.σ[i]?= some (.list vs)->z.φ[i]?= some a->z.own a=some i/\∃ws:List Value,z.s.heap.IsList a ws.toArray/\j0 θ z vs ws
 old:∀b o,θ.base.get? b=some o->z.s.heap.get? b=some o
 lo:∀b i,z.own b=some i->θ.base.get? b=none
 there:∀b i,z.own b=some i->∃o,z.s.heap.get? b=some o
structure uK(L:Addr->Prop)(z z':Z):Prop where
 pre:z.φ <+: z'.φ
 ext:∀b i,z.own b=some i->z'.own b=some i
 new:∀b i,z.own b=none->z'.own b=some i->z.s.heap.get? b=none
 keep:∀b o,¬ L b->z.own b=none->z.s.heap.get? b=some o->(∀vs,o.data≠ .fields vs)->∃sl,z'.s.heap.get? b=some {o with slots:=sl}
 there:∀b o,z.own b=none->z.s.heap.get? b=some o->∃o',z'.s.heap.get? b=some o'/\((∀vs,o.data≠ .fields vs)->∀vs,o'.data≠ .fields vs)
 gens:z'.s.gens=z.s.gens
 os:z'.s.os=z.s.os
structure Fl(θ:Th)(L:Addr->Prop)(z z':Z)(wd:Str)(a:Addr):Prop where
 sim:oa θ z'
 go:uK L z z'
 exc:wJ θ z' a wd
noncomputable def Ends{α β:Type}(θ:Th)(L:Addr->Prop)(z:Z)(R:Z->α->β->Prop)(Q:α->St->Prop)(K:β->Shared->Prop):Prop:=∀a b z',Q a z'.σ->Nx θ L z z'->R z' a b->K b z'.s
noncomputable def dq(θ:Th)(L:Addr->Prop)(z:Z)(E:Str->St->Prop)(X:Value->Shared->Prop):Prop:=∀c a z',E c z'.σ->Fl θ L z z' c a->X (.ref a) z'.s
noncomputable def Loc(a:PySem.Env)(b:Addr):Prop:=b=a.locals∨∃x,a.kindOf x=some .cell/\a.cells.lookup x=some b
noncomputable abbrev TI(n:Nat):I:=KN FF CC n
noncomputable def TE(θ:Th)(n:Nat)(f:Fm)(a:E)(e:Expr):Prop:=∀ {ρ z Q E K X},Cx θ f n ρ z->pw ((TI n).ev ρ a) Q E z.σ->Ends θ eH z (RZ θ) Q K->dq θ (Loc f.env) z E X->wpAny (model θ.prog θ.w) f.A (eval e f.env) K X z.s
noncomputable def KB(θ:Th)(z:Z)(Q₁ Q₂:St->Prop)(K:Bool->Shared->Prop):Prop:=(∀z',Q₁ z'.σ->Nx θ eH z z'->K true z'.s)/\∀z',Q₂ z'.σ->Nx θ eH z z'->K false z'.s
noncomputable def TT(θ:Th)(n:Nat)(f:Fm)(a:E)(e:Expr):Prop:=∀ {ρ z Q₁ Q₂ E K X},Cx θ f n ρ z->pw ((TI n).ev ρ a) (mc Q₁ Q₂) E z.σ->KB θ z Q₁ Q₂ K->dq θ (Loc f.env) z E X->wpAny (model θ.prog θ.w) f.A (isTrue e f.env (eval e f.env)) K X z.s
section
variable{θ:Th}{f:Fm}{n k:Nat}{ρ:Env}{z z' rg:Z}{L:Addr->Prop}{α β:Type}{E:Str->St->Prop}{X:Value->Shared->Prop}{b:Addr}
theorem Ends.after{R:Z->α->β->Prop}{Q:α->St->Prop}{K:β->Shared->Prop}(h:Ends θ L z R Q K)(g:Nx θ L z z'):Ends θ L z' R Q K:=λ a b c q N r=>h a b c q (g.trans N) r
theorem KB.after{Q₁ Q₂:St->Prop}{K:Bool->Shared->Prop}(h:KB θ z Q₁ Q₂ K)(g:Nx θ eH z z'):KB θ z' Q₁ Q₂ K:=⟨λ a q N=>h.1 a q (g.trans N),λ a q N=>h.2 a q (g.trans N)⟩
theorem q8.Bj(x:q8 L z z')(y:uK L z' rg):uK L z rg where
 pre:=x.pre.trans y.pre
 ext b i e:=y.ext b i (x.ext b i e)
 new b i e d:=by
  generalize c:z.s.heap.get? b=g;induction g with
  |none=>rfl
  |some o=>exact(x.there b o e c).elim λ a h=>dk (h.1.symm.trans (y.new b i (x.stays c e) d))
 keep b o l e h n:=y.keep b o l (x.stays h e) (x.keep b o l e h) n
 there b o e h:=(x.there b o e h).elim λ a q=>(y.there b a (x.stays h e) q.1).imp λ _ r=>⟨r.1,λ n=>r.2 (q.2 n)⟩
 gens:=y.gens.trans x.gens
 os:=y.os.trans x.os
theorem dq.after(h:dq θ L z E X)(g:Nx θ L z z'):dq θ L z' E X:=λ c a d q y=>h c a d q ⟨y.sim,g.go.Bj y.go,y.exc⟩
theorem fE.go(g:q8 L z z')(s:fE θ z q):fE θ z' q:=by rwa[cA s,c h d];try clear s;rwa[ac d,o a e,-d];exact(bN (g.stays a c) h ((g.there q o c a).imp λ _ r=>⟨r.1,r.2 e⟩))
theorem lG.imp(k:∀q,fE θ z q->fE θ z' q):∀ {l:List PySem.Env},lG θ z l->lG θ z' l
 | [],_=>trivial
 |_::_,x=>⟨⟨x.1.1,x.1.2.imp λ L y=>⟨y.1,k L y.2⟩⟩,lG.imp k x.2⟩
theorem pn.imp(k:∀q,fE θ z q->fE θ z' q)(a:pn θ A n z):pn θ A n z':=⟨a.depth,a.units,a.frames.imp λ _ h=>⟨h.1,h.2.imp k⟩,λ q e=>k q (a.GO q e)⟩
theorem pn.less(a:pn θ A (n+1) z):pn θ A n z:=
 ⟨Nat.le_trans (Nat.add_le_add_left (Nat.mul_le_mul_left 2 (Nat.le_succ n)) _) a.depth,Nat.le_trans (Nat.add_le_add_left (Nat.mul_le_mul_left 20 (Nat.le_succ n)) _) a.units,a.frames,a.GO⟩
theorem lF.go(g:Nx θ L z z')(h:lF θ f ρ z x o):lF θ f ρ z' x o:=λ i v d c a=>(h i v d c a).imp λ _ r=>⟨r.1,r.2.go g⟩
theorem d7.go(g:Nx θ eH z z')(e:d7 θ f ρ z):d7 θ f ρ z' where
 ns:=e.ns.imp λ m h=>⟨by exact iK h.1 λ o s t a r=>(jR o s t (g.go.keep _ _ id e.pU a) r),λ x l=>(h.2 x l).go g⟩
 cells x c h:=by rwa[aK (e.cells x c h),a j];rwa[ac j,v i p];try clear j;rwa[ac i,o d q,-i];exact⟨g.go.stays d a,v,(aw o (g.go.keep _ _ id a d) q),λ k=>(p k).go g⟩
 len:=e.len
 pU:=by rwa[ac e.ns,_ h _];rwa[iK h,_ _ _ a _,-h];exact g.go.stays a e.pU
theorem Cx.go(c:Cx θ f n ρ z)(g:Nx θ eH z z'):Cx θ f n ρ z':=⟨c.st,c.a.imp λ _=>.go g.go,c.e.go g,g.sim⟩
theorem Cx.less(c:Cx θ f (n+1) ρ z):Cx θ f n ρ z:=⟨c.st,c.a.less,c.e,c.s⟩
end
section
variable{G:Prop}{α β:Type}{Q:β->St->Prop}{E:Str->St->Prop}{σ:St}
theorem Uc:wp m Q E σ=(match m σ with
 | .ok a c=>Q a c
 | .exc w c=>E w c
 | .bad=>False):=gI _
theorem bW(h:wp (gO o f) Q E σ)(k:∀a,o=some a->wp (f a) Q E σ->G):G:=by
 induction o with
 |none=>exact(lq h).elim
 |some a=>exact k a rfl h
theorem gA(h:wp (gB b m) Q E σ)(k:b=true->wp m Q E σ->G):G:=by
 induction b with
 |false=>exact(lq h).elim
 |true=>exact k rfl h
theorem d5(h:wp (iS a) Q E σ):Q a σ:=lq h
theorem jp(h:wp bad Q E σ):False:=lq h
theorem hZ{o:d4}{Q:V->St->Prop}(h:wp (cY o) Q E σ):Q (.ref σ.length) (σ++[o]):=lq h
theorem s5{d:Nat}{o:d4}{Q:Unit->St->Prop}(h:wp (BA d o) Q E σ):Q () (σ.set d o):=lq h
theorem mZ{a:List V}{Q:V->St->Prop}(h:wp (lZ a) Q E σ)(k:hU a=true->Q (.ref σ.length) (σ++[.list a])->G):G:=by
 unfold lZ wp at h;generalize e:hU a=c;induction c with
 |false=>rw[e]at h;exact(lq h).elim
 |true=>rw[e]at h;exact k e (lq h)
theorem jb(h:wp (jz a b f) Q E σ)(k:∀x y,gD a=some x->gD b=some y->wp (f x y) Q E σ->G):G:=bW h λ x d h=>bW h λ y c h=>k x y d c h
end
end
section
open PySem PyProof.Rows
section
variable{θ:Th}{z:Z}{A:Around}{X:Value->Shared->Prop}{a b c:V}{u v x:Value}{Q:V->St->Prop}{E:Str->St->Prop}{K:Value->Shared->Prop}{s':Shared}{i:Nat}
theorem bP{t:Nat}(d:Ends θ eH z (RZ θ) Q K)(S:ec θ z)(q:Q a z.σ)(r:RZ θ z a u):K u {z.s with toks:=t}:=d _ _ ⟨z.φ,z.own,z.σ,{z.s with toks:=t}⟩ q (S.grown (λ _ _ e=>e) rfl rfl) r
theorem js(f:Ends θ eH z (RZ θ) Q K)(S:ec θ z)(q:Q a z.σ)(d:∀b o,z.s.heap.get? b=some o->s'.heap.get? b=some o)(e:s'.gens=z.s.gens)(g:s'.os=z.s.os)(r:RV θ.P s'.heap z.φ a u):K u s':=
 f _ _ ⟨z.φ,z.own,z.σ,s'⟩ q (S.grown d e g) r
theorem tz{o:Obj}(h:o.cls=.type "list"):kn o:=.of (by erw[h];simp)
theorem jN{d:List V}{ws:List Value}{q:Addr}{n:Nat}(m:Ends θ eH z (RZ θ) Q K)(S:ec θ z)(h:Q (.ref z.σ.length) (z.σ++[.list d]))(j:∀b o,z.s.heap.get? b=some o->s'.heap.get? b=some o)(g:z.s.heap.get? q=none)
  (e:s'.heap.get? q=some {cls:=.type "list",data:=.seq ws.toArray n}) (k:s'.gens=z.s.gens) (p:s'.os=z.s.os) (R:j0 θ z d ws) (l:d.length≤1000000):K (.ref q) s':=by
 have N:=S.push (o:=.list d) j k p g e (tz rfl) λ f=>⟨l,ws,⟨_,e⟩,R.mono f (List.prefix_append _ _)⟩;exact m _ _ _ h N.1 N.2
theorem rX{h:Heap}{ws:Array Value}:(h.push {cls:=.type "list",data:=.seq ws}).get? h.objs.size=some {cls:=.type "list",data:=.seq ws}:=Heap.get?_push_size _ rfl
theorem tu{d:List V}{f:List Value}(j:Ends θ eH z (RZ θ) Q K)(S:ec θ z)(g:Q (.ref z.σ.length) (z.σ++[.list d]))(R:j0 θ z d f)(h:d.length<=1000000):
  K (.ref z.s.heap.objs.size) {z.s with heap:=z.s.heap.push {cls:=.type "list",data:=.seq f.toArray}}:=
 jN j S g (λ _ _ e=>Heap.get?_push_of_some _ e) (Heap.get?_none_of_le (Nat.le_refl _)) rX rfl rfl R h
theorem jt{i:Int}(h:iZ i=true): -4611686018427387904<=i/\i<4611686018427387904:=by have h:=Bool.and_eq_true_iff.mp h;exact⟨of_decide_eq_true h.1,of_decide_eq_true h.2⟩
theorem BS{i:Int}(h:iZ i=true):Builtin.Int.intBits i<=64:=
 intBits_le_64 (Int.le_trans (by decide) (jt h).1) (Int.lt_trans (jt h).2 (by decide))
theorem tv{x y:Int}(h:iZ y=true):Builtin.divisionGoesByPylong x y=false:=by
 have:=jt h;unfold Builtin.divisionGoesByPylong;have l:(if(y==0)=true then 0 else y.natAbs.log2 / 30+1)<=300:=by
  split
  ·exact Nat.zero_le _
  ·have:y.natAbs.log2<64:=by
    by_cases z:y.natAbs=0
    ·erw[z];decide
    ·exact(Nat.log2_lt z).mpr (by omega)
   omega
 exact Bool.and_eq_false_iff.mpr (.inl (bA (Nat.not_lt.mpr l)))
theorem gV{α:Type}{l:List α}(h:hU l=true):l.length<=1000000:=of_decide_eq_true h
noncomputable def Is(P:Places)(h:Heap)(d:wI)(u:Value):V->Prop
 | .none=>u=.none
 | .bool b=>u=.bool b
 | .int i=>∃t,u=.int i t
 | .str s=>∃t,u=.str s t
 | .tup f=>∃a e,u=.ref a/\h.IsTuple a e.toArray/\et P h d f e
 | .ref i=>∃a,u=.ref a/\d[i]?= some a
 | .fn k=>u=.ref (P.fa k)
 | .cls k=>u=.ref (P.ca k)
 | .bi b=>u=ux b
 | .ke g=>∃a,u=.ref a/\P.sc a g
theorem RV.is{P:Places}{h:Heap}{d:wI}{v:V}{u:Value}(r:RV P h d v u):Is P h d u v:=by
 induction r using RV.casesOn with
 |none=>rfl
 |bool=>rfl
 |int _ t=>exact⟨t,rfl⟩
 |str _ t=>exact⟨t,rfl⟩
 |tup x y=>exact c9 _ _ rfl x y
 |ref x=>exact aw _ rfl x
 |fn=>rfl
 |cls=>rfl
 |bi=>rfl
 |ke x=>exact aw _ rfl x
theorem RV.gS{i:Nat}(r:RZ θ z (.ref i) u):∃a,u=.ref a/\z.φ[i]?= some a:=RV.is r
theorem RV.mw{e:List V}(r:RZ θ z (.tup e) u):∃a d,u=.ref a/\z.s.heap.IsTuple a d.toArray/\j0 θ z e d:=RV.is r
theorem RV.iO{i:Int}(r:RZ θ z (.int i) u):∃t,u=.int i t:=RV.is r
theorem RV.iN{i:Str}(r:RZ θ z (.str i) u):∃t,u=.str i t:=RV.is r
theorem RV.fK{i:Bool}(r:RZ θ z (.bool i) u):u=.bool i:=RV.is r
theorem RV.sQ(r:RZ θ z .none u):u=.none:=RV.is r
theorem RV.QK{k:Nat}(r:RZ θ z (.fn k) u):u=.ref (θ.P.fa k):=RV.is r
theorem RV.ya{k:Nat}(r:RZ θ z (.cls k) u):u=.ref (θ.P.ca k):=RV.is r
theorem RV.Ef{b:BI}(r:RZ θ z (.bi b) u):u=ux b:=RV.is r
theorem Ei{i:Int}(h:gD a=some i):a=.int i:=by
 induction a using V.casesOn with
 |int=>obtain rfl:=an (h);rfl
 |_=>exact aD (h)
theorem Eg{i:Str}(h:A4 a=some i):a=.str i:=by
 induction a using V.casesOn with
 |str=>obtain rfl:=an (h);rfl
 |_=>exact aD (h)
theorem Km{i:List V}(h:EO a=some i):a=.tup i:=by
 induction a using V.casesOn with
 |tup=>obtain rfl:=an (h);rfl
 |_=>exact aD (h)
theorem n6{i:Nat}(h:A5 a=some i):a=.ref i:=by
 induction a using V.casesOn with
 |ref=>obtain rfl:=an (h);rfl
 |_=>exact aD (h)
theorem RZ.gD{i:Int}(r:RZ θ z a u)(h:gD a=some i):∃t,u=.int i t:=RV.iO (Ei h▸r)
theorem RZ.A4{i:Str}(r:RZ θ z a u)(h:A4 a=some i):∃t,u=.str i t:=RV.iN (Eg h▸r)
theorem RZ.EO{i:List V}(r:RZ θ z a u)(h:EO a=some i):∃a d,u=.ref a/\z.s.heap.IsTuple a d.toArray/\j0 θ z i d:=RV.mw (Km h▸r)
theorem RZ.A5{i:Nat}(r:RZ θ z a u)(h:A5 a=some i):∃a,u=.ref a/\z.φ[i]?= some a:=RV.gS (n6 h▸r)
theorem aE{α d:Type}{o:Option α}{f:α->Option d}{b:d}(h:o.bind f=some b):∃a,o=some a/\f a=some b:=Option.bind_eq_some_iff.mp h
theorem bc{α d:Type}{o:Option α}{f:α->d}{b:d}(h:o.map f=some b):∃a,o=some a/\f a=b:=Option.map_eq_some_iff.mp h
theorem fA{α:Type}{l:List α}{x:α}(h:one l=some x):l=[x]:=by
 induction l with
 |nil=>exact aD (h)
 |cons y r=>induction r with
  |nil=>obtain rfl:=an (h);rfl
  |cons=>exact aD (h)
theorem jJ{α:Type}{l:List α}{x:α×α}(h:yn l=some x):l=[x.1,x.2]:=by
 induction l with
 |nil=>exact aD (h)
 |cons y r=>rwa[ac (bc h),w d e];subst e;erw[fA d];rfl
structure IsL(θ:Th)(z:Z)(v:V)(u:Value)(vs:List V)(d:Nat)(p:Addr)(ws:List Value):Prop where
 v:v=.ref d
 u:u=.ref p
 at_:z.σ[d]?= some (.list vs)
 foot:z.φ[d]?= some p
 own:z.own p=some d
 le:vs.length<=1000000
 len:vs.length=ws.length
 pl:z.s.heap.PlainList p ws.toArray
 il:z.s.heap.IsList p ws.toArray
 rs:j0 θ z vs ws
theorem ec.Hx{j:List V}{d:Nat}(S:ec θ z)(g:z.σ[d]?= some (.list j))(r:RZ θ z (.ref d) u):∃p e,IsL θ z (.ref d) u j d p e:=by rwa[ac (RV.gS r),p q l];subst q;rwa[cA (S.list g l),o n m];rwa[ac m,e f k,-m];exact(im p e ⟨rfl,rfl,g,l,o,n,k.length,f,by rwa[aW f,_ h,-f];exact(cR _ h rfl ⟨_,rfl⟩),k⟩)
theorem Fg{o:d4}{d:List V}(h:LX o=some d):o=.list d:=by
 induction o with
 |list=>obtain rfl:=an (h);rfl
 |_=>exact aD (h)
theorem ec.rK{e:List V}{d:Nat}(S:ec θ z)(g:rK z.σ d=some e)(r:RZ θ z (.ref d) u):∃p h,IsL θ z (.ref d) u e d p h:=by rwa[ac (aE g),o f j];rw[Fg j]at f;exact S.Hx f r
theorem ec.vL{e:List V}(S:ec θ z)(g:vL z.σ a=some e)(r:RZ θ z a u):∃d p f,IsL θ z a u e d p f:=by rwa[ac (aE g),d j h];obtain rfl:=n6 j;exact⟨d,S.rK h r⟩
theorem wc{M:Program}{w:World}{s:Shared}{p q:Addr}{e d:List Value}{Q:Value->Shared->Prop}(l:s.heap.IsList p e.toArray)(k:s.heap.IsList q d.toArray)(hz:e.length+d.length<=1000000)
  (h:Q (.ref s.heap.objs.size) {s with heap:=s.heap.push {cls:=.type "list",data:=.seq (e++d).toArray}}):wpAny (model M w) A (binaryOp .Add (.ref p) (.ref q)) Q X s:=by
 rwa[bR l,G f j n];try clear l;obtain ⟨Y,J,data1,O⟩:=G;rwa[aW n,y r,-n]
 rwa[bR k,B o2 g m];try clear k;obtain ⟨U,H,data2,L⟩:=B;rwa[aW m,t o,-m]
 simp only at j r g o;subst j r g o;refine concat_meets (aw _ f rfl) (aw _ o2 rfl) noFill_list_add seq_list_add PySem.F.slot_list_add PySem.F.entry_list_add (PySem.F.args_list_add_2 _ _)
  (list_addW p q e.toArray d.toArray y t J H O L (by exact aU sizeLine_eq (Nat.le_trans hz (by decide)))) (bN f o2 ?_)
 rw[List.append_toArray];exact h
theorem w0{M:Program}{w:World}{s:Shared}{p:Addr}{y:Value}{n:Int}{t:Tok}{Q:Value->Shared->Prop}(o:s.heap.IsList p [y].toArray)(O:0<=n)(hz:n<=1000)
  (h:Q (.ref s.heap.objs.size) {s with heap:=s.heap.push {cls:=.type "list",data:=.seq (List.replicate n.toNat y).toArray}}):wpAny (model M w) A (binaryOp .Mult (.ref p) (.int n t)) Q X s:=by
 rwa[bR o,J d j m];try clear o;obtain ⟨Y,r,data1,B⟩:=J;rwa[aW m,f q,-m]
 simp only at j q;subst j q;refine wpAny_binaryOp_repeat_ref (T:= "list") (U:= "int") (by decide) (aw _ d rfl) (fun s'=>typeIs_int s' n t) noFill_list_mul F.fills_int_mul F.slot_int_rmul repeat_list F.slot_int_index.lookup
  (call_meets F.slot_int_rmul (typeIs_int s n t) F.entry_int_rmul (F.args_int_rmul_2 _ _) (lm_int_rmul_list_any n t p [y].toArray f r B)
   (oW d rfl (aw _ d rfl) (call_meets F.slot_list_mul (aw _ d rfl) F.entry_list_mul (F.args_list_mul_2 _ _)
    (lm_list_mul_any p [y].toArray f r B n t (by simp [Builtin.List.listFitsIndex];exact ed (.e (.l (.g (.c 9223372036854775808)) Y0) (.p Y0 (.c 9223372036854775808))) [.l (.c 0) Y0,.l Y0 (.c 1000)] (.s 0 (.l [1,1]) (.l [1,0,1])) rfl O hz) (by have: [y].toArray.size=1:=rfl;erw[this];omega) (by simp [Builtin.List.listTooLong,sizeLine];exact ed (.l Y0 (.c 16777216)) [.l Y0 (.c 1000)] (.l [1,1]) rfl hz)) ⟨d,?_⟩)))
 have e:List.foldl (λ H G=>H++G) #[] (List.replicate (if([y].toArray).isEmpty=true then 0 else n.toNat) [y].toArray)=(List.replicate n.toNat y).toArray:=by
  rw[listMul_foldl_if];have:∀k:Nat,(List.replicate k [y]).flatten=List.replicate k y:=λ k=>by induction k with|zero=>rfl|succ k L=>simp [List.replicate_succ,L]
  simp [this]
 exact aU e h
theorem bV{a b:Bool}(h:(a&&b)=true):a=true/\b=true:=Bool.and_eq_true_iff.mp h
theorem El{p q:Prop}[Decidable p][Decidable q](h:(decide p&&decide q)=true):p/\q:=⟨of_decide_eq_true (bV h).1,of_decide_eq_true (bV h).2⟩
theorem BW{p:Prop}[Decidable p](h:(!decide p)=true): ¬ p:=λ q=>by rw[bq q]at h;exact bZ Bool.ctorIdx (h) rfl
theorem En(f:wp (QP a b) Q E z.σ)(S:ec θ z)(m:RZ θ z a u)(k:RZ θ z b v)(o:Ends θ eH z (RZ θ) Q K):wpAny (model θ.prog θ.w) A (binaryOp .Add u v) K X z.s:=by
 have J:(∀x,a≠ .int x)->wpAny (model θ.prog θ.w) A (binaryOp .Add u v) K X z.s:=λ q=>by
  have f:wp (λ s=>gO (vL s a) (λ j=>gO (vL s b) λ h=>lZ (j++h)) s) Q E z.σ:=by
   induction a using V.casesOn with
   |int x=>exact absurd rfl (q x)
   |_=>exact f
  refine bW f λ j B f=>bW f λ h t f=>mZ f λ n f=>?_;rwa[kW (S.vL B m),d p L l];rwa[kW (S.vL t k),U O Y g];obtain rfl:=l.u;obtain rfl:=g.u;exact wc l.il g.il (by exact fM l.len (fM g.len (fM List.length_append (gV n)))) (tu o S f (l.rs.append g.rs) (gV n))
 induction a using V.casesOn with
 |int x=>rwa[bW f,y r f];rwa[aW (RV.iO m),_ H];subst H;rwa[aW (k.gD r),_ G];subst G;exact add_int (bP o S (d5 f) (.int _ _))
 |_=>exact J λ _ e=>bZ ri (e) rfl
theorem B3(f:wp (Mb a b) Q E z.σ)(S:ec θ z)(j:RZ θ z a u)(y:RZ θ z b v)(m:Ends θ eH z (RZ θ) Q K):wpAny (model θ.prog θ.w) A (binaryOp .Mult u v) K X z.s:=by
 rwa[bW f,n J f];rwa[aW (y.gD J),t Y];subst Y;have B6:(∀x,a≠ .int x)->wpAny (model θ.prog θ.w) A (binaryOp .Mult u (.int n t)) K X z.s:=λ H=>by
  have f:wp (λ s=>gO ((vL s a).bind one) (λ v=>gB (decide (0<=n)&&decide (n<=1000)) (cY (.list (List.replicate n.toNat v)))) s) Q E z.σ:=by
   induction a using V.casesOn with
   |int x=>exact absurd rfl (H x)
   |_=>exact f
  refine bW f λ v h f=>gA f λ g f=>?_;rwa[ac (aE h),vs h U];rwa[kW (S.vL h j),d p ws l];obtain rfl:=l.u;have hz:=El g;have rs:=l.rs;have G:=l.il;rw[fA U]at rs
  cases rs with
  |cons r B=>
   cases B
   exact w0 G hz.1 hz.2 (tu m S (hZ f) (et.replicate r _) (by exact aU List.length_replicate (kJ (.i W0 (.c 1000000)) [.e (.l (.c 0) Y0) (.l Y0 (.c 1000)),.o (.e (.l (.c 0) Y0) (.q (.t W0) Y0)) (.e (.l Y0 (.c 0)) (.k W0 (.c 0)))] (.s 2 (.l [0,1,0,1,0,1]) (.l [0,1,0,1])) rfl hz (Mine.L.bO _))))
 induction a using V.casesOn with
 |int x=>rwa[gA f,g f];rwa[aW (RV.iO j),_ O];subst O;exact mul_int (bP m S (d5 f) (.int _ _)) (IntMulOk.of_left (BS (bV g).1))
 |_=>exact B6 λ _ e=>bZ ri (e) rfl
theorem D9{m:Operator}(d:wp (jo m a b) Q E z.σ)(S:ec θ z)(h:RZ θ z a u)(g:RZ θ z b v)(k:Ends θ eH z (RZ θ) Q K):wpAny (model θ.prog θ.w) A (binaryOp m u v) K X z.s:=by
 induction m with
 |Add=>exact En d S h g k
 |Mult=>exact B3 d S h g k
 |Sub=>rwa[jb d,x y f e d];rwa[aW (h.gD f),_ O];subst O;rwa[aW (g.gD e),_ L];subst L;exact sub_int (bP k S (d5 d) (.int _ _))
 |Mod=>refine jb d λ x y f e d=>gA d λ j d=>?_;rwa[aW (h.gD f),_ J];subst J;rwa[aW (g.gD e),_ H];subst H;exact mod_int' (BW j) (bP k S (d5 d) (.int _ _))
 |FloorDiv=>refine jb d λ x y f e d=>gA d λ j d=>?_;rwa[aW (h.gD f),_ t];subst t;rwa[aW (g.gD e),_ r];subst r;exact floordiv_int (BW (bV j).1) (bP k S (d5 d) (.int _ _)) (.inl (tv (bV j).2))
 |LShift=>refine jb d λ x y f e d=>gA d λ j d=>?_;rwa[aW (h.gD f),_ q];subst q;rwa[aW (g.gD e),_ p];subst p;have o:=bV j;have n:=bV o.1;have G:=of_decide_eq_true n.2;have B:=of_decide_eq_true o.2;have U:=jt n.1;exact lshift_int_small G (ed (.l Y0 (.c 1000000)) [.l Y0 (.c 64)] (.l [1,1]) rfl B) (by omega) (bP k S (d5 d) (.int _ _))
 |_=>exact(jp d).elim
end
section
variable{θ:Th}{z:Z}{A:Around}{X:Value->Shared->Prop}{a b c:V}{u v x:Value}{Q:V->St->Prop}{E:Str->St->Prop}{K:Value->Shared->Prop}{s':Shared}{i:Nat}
theorem rW(h:kh k n=some j)(e:n<=1000000):(-(2 ^ 63)<=k/\k<2 ^ 63/\seqIndex? k n=some j)/\((0<=k/\j=k.toNat/\k<n)∨(k<0/\0<=k+n/\j=(k+n).toNat)):=by
 unfold kh at h;unfold seqIndex?
 split at h
 ·rename_i d
  split at h
  ·obtain rfl:=an (h);have: ¬ k<0:=by exact MB d
   exact⟨(bN (by omega) (by omega) (by simp [this];omega)),.inl (bN d rfl (by assumption))⟩
  ·exact aD (h)
 ·rename_i d
  split at h
  ·obtain rfl:=an (h);have:k<0:=by exact M5 d
   exact⟨(bN (by omega) (by omega) (by simp [this];omega)),.inr (bN this (by assumption) rfl)⟩
  ·exact aD (h)
theorem ints_get(h:IntsAre d f):∀ {j:Nat} {i:Int},f[j]?= some i->∃t,d[j]?= some (.int i t):=by
 induction h with
 |nil=>exact λ e=>aD e
 |cons i t x g=>
  intro j _ e;rcases j with _|j
  ·obtain rfl:=an e;exact⟨t,rfl⟩
  ·exact g e
theorem sw(h:IntsAre d e):e.length=d.length:=by
 induction h with
 |nil=>rfl
 |cons _ _ _ f=>exact congrArg (· +1) f
theorem RV.Ee{is:List Int}(W:Wd θ)(r:RZ θ z (.ke is) u)(S:ec θ z):∃q d,u=.ref q/\is.length<=1000000/\z.s.heap.IsList q d.toArray/\IntsAre d is:=by
 rwa[ac (RV.is r),m l x,l]
 ·rwa[aK (W.ke _ _ x),k e];rwa[ac e,d f g];try clear e;rwa[ac f,o j h,-f]
  exact(gj _ d rfl k (aw o (S.old _ _ j) h) g)
theorem sk{M:Program}{w:World}{s:Shared}{p:Addr}{d:List Value}{k:Int}{t:Tok}{n j:Nat}{y:Value}(l:s.heap.IsList p d.toArray)(m:n=d.length)(o:n<=1000000)(q:kh k n=some j)(f:d[j]?= some y)(h:K y s):
  wpAny (model M w) A (getItem (.ref p) (.int k t)) K X s:=by
 rcases (rW q o).2 with ⟨e,rfl,_⟩|⟨e,r,rfl⟩
 ·exact wpAny_getItem_list l e (by omega) (by exact aU (List.getElem?_toArray) f) h
 ·refine wpAny_getItem_list_neg l e ?_ (by omega) ?_ h
  ·exact aU List.size_toArray (fM m (kJ (.l (.g (.t W0)) Y0) [.l (.c 0) (.a Y0 (.t W0))] (.l [1,1]) rfl r))
  ·exact aU List.size_toArray (fM m (aU (List.getElem?_toArray) f))
theorem I7{M:Program}{w:World}{k:Int}{t:Tok}:(intKind M w).is k (.int k t)=true:=by simp [intKind,Value.isInt]
theorem LI{M:Program}{w:World}{k:Str}{t:Tok}:(strKind M w).is k (.str k t)=true:=by simp [PySem.strKind,Value.isStrOf]
theorem wb(h:qU R d m)(e:d=some y):∃z,m=some z/\R y z:=by subst e;cases h with|some r=>exact(aw _ rfl r)
noncomputable def Ev(s:Shared)(u:Value):Prop:=∃T id,s.TypeIs u T∧typeLookup (.type T) "__getitem__" =pure (some (.builtin id))
theorem vO(W:Wd θ)(e:wp (cK a b) Q E z.σ)(S:ec θ z)(J:RZ θ z a u)(H:RZ θ z b v)(L:Ends θ eH z (RZ θ) Q K):Ev z.s u/\wpAny (model θ.prog θ.w) A (getItem u v) K X z.s:=by
 induction a using V.casesOn with
 |tup vs=>refine gA e λ O e=>bW e λ k r e=>bW e λ y h e=>?_;rwa[cX (RV.mw J),q Y cH t rs];subst cH;rwa[aW (H.gD r),_ dy];subst dy;rwa[ac (aE h),j g G];rwa[ac (rs.get G),U f B];have n:=(rW g (gV O)).1;rw[rs.length]at n;exact⟨(ff _ _ (IsTup.typeIs t) slot_tuple_getitem.lookup),getItem_tuple t n.1 n.2.1 n.2.2 (by exact aU (List.getElem?_toArray) f) (bP L S (d5 e) B)⟩
 |ke is=>refine bW e λ k r e=>bW e λ y h e=>?_;rwa[dm (RV.Ee W J S),q Y eK hl l1 r1];subst eK;rwa[aW (H.gD r),_ fO];subst fO;exact ac (aE h) λ j g G=>aW (ints_get r1 G) λ t f=>⟨(ff _ _ l1.typeIs list_getitem_lookup),sk l1 (sw r1) hl g f (bP L S (d5 e) (.int _ t))⟩
 |ref d=>
  rwa[bW e,o r e]
  induction o with
  |list vs=>refine bW e λ k h e=>bW e λ y g e=>?_;rwa[d9 (S.Hx r J),p Y l];obtain rfl:=l.u;rwa[aW (H.gD h),_ gU];subst gU;exact ac (aE g) λ j G n=>ac (l.rs.get n) λ U f B=>⟨(ff _ _ l.il.typeIs list_getitem_lookup),sk l.il l.len l.le G f (bP L S (d5 e) B)⟩
  |fS es=>refine bW e λ k h e=>bW e λ y g e=>?_;rwa[ac (RV.gS J),p ip e1];subst ip;rwa[aW (H.A4 h),_ iB];subst iB;rwa[aK (S.obj _ _ _ r e1),_ d8];rwa[ac d8,m hm O,-d8];exact ac (wb (O k) (by exact aU g rfl)) λ U f B=>⟨(ff _ _ hm.typeIs slot_dict_getitem.lookup),wpAny_getItem_of (k:=k) LI hm f (bP L S (d5 e) B)⟩
  |_=>exact(jp e).elim
 |_=>exact(jp e).elim
theorem ec.ns(S:ec θ z)(x:θ.base.Ns N d):z.s.heap.Ns N d:=by rwa[iK x,o f g e r,-x];exact(jR o f g (S.old _ _ e) r)
theorem xj:(bH.all fun x=>match fastLookup "object" x with|some none=>true|_=>false)=true:=by kernel_rfl
theorem BY{x:Str}(h:x∈bH):typeLookup (.type "object") x=pure none:=by
 have:=List.all_eq_true.mp xj x h;rw[typeLookup_type,builtinLookup_eq_fast]
 revert this
 cases fastLookup "object" x with
 |none=>exact λ h=>bZ Bool.ctorIdx (h) rfl
 |some r=>induction r with
  |none=>exact λ _=>rfl
  |some r=>exact λ h=>bZ Bool.ctorIdx (h) rfl
theorem xZ:bH.Nodup:=by decide+kernel
theorem Ed{i j:Nat}{x:Str}(d:bH[i]?= some x)(e:bH[j]?= some x):i=j:=(List.getElem?_inj (cw.mp d).1 xZ).mp (d.trans e.symm)
theorem vY(b:BI):handedOut (ux b)=pure (ux b):=by rcases b with ⟨⟩<;> with_unfolding_all rfl
theorem RZ.handed(r:RZ θ z a u):handedOut u=pure u:=by
 induction r using RV.casesOn with
 |bi b=>exact vY b
 |_=>rfl
theorem Ff(h:Io o=some q):o=.inst q.1 q.2:=by
 induction o with
 |inst=>obtain rfl:=an (h);rfl
 |_=>exact aD (h)
theorem Eh(h:Xi z.σ d=some q):z.σ[d]?= some (.inst q.1 q.2):=by
 rwa[ac (aE h),o f e]
 erw[f,Ff e];rfl
theorem Ha(h:vN z.σ a=some q):∃d,a=.ref d/\z.σ[d]?= some (.inst q.1 q.2):=by exact ac (aE h) λ d f e=>(aw d (n6 f) (Eh e))
theorem vB{s:Shared}{P:Shared->Prop}(h:P ⟨s.heap,s.gens,s.drawn,s.toks,s.os⟩):P s:=h
theorem AL{k:Nat}{x:Str}{e:Bool}(W:Wd θ)(j:bH[k]?= some x)(f:wp (cM a k) Q E z.σ)(S:ec θ z)(n:RZ θ z a u)(G:Ends θ eH z (RZ θ) Q K):wpAny (model θ.prog θ.w) A (getAttr u x e) K X z.s:=by refine bW f λ q g f=>gA f λ B f=>bW f λ y t Y=>?_;rwa[ac (Ha g),d J H];subst J;rwa[ac (RV.gS n),p L O];subst L;rwa[aK (S.obj _ _ _ H O),_ m];rwa[qB m,o dx mA _ _ _ I wS F,-m];rwa[dm ((W.cls _ B).at_),N mN r c4 c5 c6];obtain ⟨⟨nm,q,bs,sn,sub,U,dd,k0,k1,k2,k3,k5,c1⟩,c3⟩:=r;have l:=List.mem_iff_getElem?.mpr ⟨_,j⟩;exact ac (wb (F k x j) t) λ y' hz h=>vB (load_attr (S.old _ _ c1) (S.ns c3) c4 (c6 x l) (BY l) I hz h.handed (bP G S (d5 Y) h))
theorem sj(n:Nat)(v:V):∀ (f:List (Nat×V)) (j:Nat),(iR n v f).lookup j=if j=n then some v else f.lookup j
 | [],j=>by
  unfold iR;by_cases h:j=n
  ·subst h;simp [List.lookup]
  ·simp [List.lookup,h,beq_eq_false_iff_ne.mpr h]
 |e::r,j=>by
  obtain ⟨d,g⟩:=e;unfold iR;by_cases q:d=n
  ·subst q
   erw[if_pos rfl]
   by_cases h:j=d
   ·subst h;simp [List.lookup]
   ·simp [List.lookup,h,beq_eq_false_iff_ne.mpr h]
  ·erw[if_neg q]
   by_cases h:j=d
   ·subst h;simp [List.lookup,q]
   ·simp [List.lookup,beq_eq_false_iff_ne.mpr h,sj n v r j]
noncomputable def Q1(θ:Th)(z:Z)(Q:Unit->St->Prop)(K:Shared->Prop):Prop:=∀d,Q () d.σ->Nx θ eH z d->K d.s
theorem s6{k:Nat}{x:Str}{y:Value}{Q:Unit->St->Prop}{K:Shared->Prop}(W:Wd θ)(hx:bH[k]?= some x)(l:wp (gY a k b) Q E z.σ)(S:ec θ z)(ra:RZ θ z a u)(rb:RZ θ z b y)(hK:Q1 θ z Q K):
  wpAny (model θ.prog θ.w) A (setAttr u x y) (λ _=>K) X z.s:=by
 refine bW l λ d g l=>bW l λ q g2 l=>gA l λ hk cT=>?_;obtain rfl:=n6 g;rwa[ac (RV.gS ra),p iU e1];subst iU;rwa[aK (S.obj _ _ _ (Eh g2) e1),L jl];rwa[qB jl,o h mA ho t N8 I wS F,-jl];rwa[dm ((W.cls _ (bV hk).1).at_),N mN kt c4 c5 c6];obtain ⟨⟨nm,q',bs,sn,sub,col,dd,k0,k1,k2,k3,k5,c1⟩,c3⟩:=kt;have hm:=List.mem_iff_getElem?.mpr ⟨_,hx⟩;have iI:p≠θ.P.ca q.1:=λ e=>by rw[← e]at c1;exact dk (c1.symm.trans (S.lo p _ L))
 refine vB (P:=λ s=>wpAny (model θ.prog θ.w) A (setAttr (.ref p) x y) (λ _=>K) X s) (store_attr (ns:=bH) PySem.F.store_object (S.old _ _ c1) (S.ns c3) c5 (c6 x hm) (BY hm) iI I (λ h' AT m hkp km=>?_) (λ y f=>wS y f) (by decide+kernel));have kp:∀b ob,b≠p->b≠h->z.s.heap.get? b=some ob->h'.get? b=some ob:=λ b ob n1 n2 hg=>hkp b ob n1 (λ ic K2 G B e=>n2 (by
  obtain rfl:=an (ho.symm.trans G);exact e.trans (an (B.symm.trans t)))) hg
 rwa[fh (km o ho),fc z1 z2 z3 z4 J];refine hK ⟨z.φ,z.own,z.σ.set d _,_⟩ (s5 cT) (S.write (s':=⟨h',z.s.gens,z.s.drawn,AT,z.s.os⟩) (o:=.inst q.1 (iR k b q.2)) e1 L (λ b ob hb hg=>kp b ob (λ e=>hb (e▸L)) (λ e=>hb (e▸N8)) hg) rfl rfl (λ H mG=>?_) λ tk=>(qi fc h _ z1 (J h t) N8 m (λ y f=>?_) (λ j y f=>?_)))
 ·by_cases G:H=p
  ·rwa[bR m,o' U i2 _,-m];exact(aw o' (G▸U) (.of (by exact aU i2 (λ q=>bZ Value.ctorIdx (q) rfl))))
  ·by_cases B:H=h
   ·rwa[dR m,o' U i2 i3 i4,-m];obtain rfl:=an (z1.symm.trans U);rcases i4 with ⟨O,_⟩|⟨dd',O,j2,j3⟩
    ·exact dk ((J h t).symm.trans O)
    ·obtain rfl:h=dd':=an ((J h t).symm.trans O);exact ig j3.ns λ od es ep g1 g2 g3 _=>(aw od (B▸g1) (λ _ ED n q=>bZ Data.ctorIdx (g2.symm.trans q) rfl))
   ·exact(S.there H d mG).imp λ ob w=>⟨kp H ob G B w.1,w.2⟩
 ·by_cases e:y=x
  ·exact e▸hm
  ·rw[if_neg e]at f;exact wS y f
 ·rw[sj];by_cases e:j=k
  ·subst e;obtain rfl:x=y:=an (hx.symm.trans f);rw[if_pos rfl,if_pos rfl];exact .some (rb.mono tk (List.prefix_refl _))
  ·have Y:y≠x:=λ q=>e (Ed (q▸f) hx);rw[if_neg e,if_neg Y];exact(F j y f).imp λ _ _ r=>r.mono tk (List.prefix_refl _)
end
end
section
open PySem PyProof.Rows PySem.SeqAt
section
variable{θ:Th}{z:Z}{A:Around}{X:Value->Shared->Prop}{a b c:V}{u v x:Value}{Q:V->St->Prop}{E:Str->St->Prop}{K:Value->Shared->Prop}{s':Shared}{i n:Nat}{r:Bool}
theorem qf{h:Heap}{p:Addr}{e d:List Value}(x:h.IsTuple p e.toArray)(y:h.IsTuple p d.toArray):e=d:=by
 rwa[bR x,o k _ f];try clear x;rwa[aW f,n j,-f]
 rwa[bR y,q m _ g];try clear y;rwa[aW g,s l,-g]
 obtain rfl:=an (k.symm.trans m);exact List.toArray_inj (Data.seq.inj (j.symm.trans l)).1
noncomputable def Eo(θ:Th)(z:Z)(n:Nat):Prop:=∀a b u r,lQ n z.σ a b=some r->RZ θ z a u->RZ θ z b u->r=true
noncomputable def zF(θ:Th)(z:Z)(n:Nat):Prop:=∀f e d r,fW n z.σ f e=some r->j0 θ z f d->j0 θ z e d->r=true
theorem H4(S:ec θ z)(G:zF θ z n):Eo θ z (n+1):=λ a b u r h k g=>by
 induction a using V.casesOn with
 |int x=>rwa[ac (bc (o:=gD b) h),y f U];subst U;obtain rfl:=Ei f;rwa[aW (RV.iO k),_ d,d];rwa[aW (RV.iO g),_ d];obtain rfl:=(Value.int.inj d).1;exact bq rfl
 |str x=>rwa[ac (bc (o:=A4 b) h),y f O];subst O;obtain rfl:=Eg f;rwa[aW (RV.iN k),_ d,d];rwa[aW (RV.iN g),_ d];obtain rfl:=(Value.str.inj d).1;exact bq rfl
 |none=>
  obtain rfl:=RV.sQ k
  induction b using V.casesOn with
  |none=>exact(an h).symm
  |str=>exact aW (RV.iN g) λ _ d=>bZ Value.ctorIdx d rfl
  |_=>exact aD (h)
 |tup B=>
  rwa[ac (aE (o:=EO b) h),w f m]
  split at m
  ·rwa[cX (RV.mw k),p us L Y s];subst L;rwa[cX (g.EO f),q vs e J H]
   cases e
   obtain rfl:=qf Y J;exact G _ _ _ _ m s H
  ·exact aD (m)
 |ref i=>
  rwa[ac (aE (o:=rK z.σ i) h),B f h];rwa[d9 (S.rK f k),p ws l];obtain rfl:=l.u
  induction b using V.casesOn with
  |ref j=>rwa[ac (aE (o:=rK z.σ j) h),w s h];rwa[d9 (S.rK s g),q om t];have e:=Value.ref.inj t.u;rw[if_pos (an (l.own.symm.trans (e▸t.own)))]at h;exact(an h).symm
  |str=>exact aW (RV.iN g) λ _ d=>bZ Value.ctorIdx d rfl
  |_=>exact aD (h)
 |_=>exact aD (h)
theorem H5(j:Eo θ z n)(o:zF θ z n):zF θ z (n+1):=λ w t s r h g d=>by
 cases g with
 |nil=>cases d;exact(an h).symm
 |cons x f=>
  cases d with
  |cons y e=>
   rwa[ac (aE h),p l h];rwa[ac (bc h),q k m];subst m
   erw[j _ _ _ _ l x y,o _ _ _ _ k f e];rfl
theorem mM(S:ec θ z):∀n,Eo θ z n/\zF θ z n
 |0=>⟨λ _ _ _ _ h=>(aD (h)),λ _ _ _ _ h=>(aD (h))⟩
 |n+1=>⟨H4 S (mM S n).2,H5 (mM S n).1 (mM S n).2⟩
structure ZD(A:Around)(s:Shared)(u v:Value)(r:Bool):Prop where
 rc:RcAt A s u v r
 eq:EqAt A s u v r
 ne:RcNeAt A s u v (!r)
noncomputable def Xz(θ:Th)(z:Z)(n:Nat):Prop:=∀ {a b u v r} {A:Around},lQ n z.σ a b=some r->RZ θ z a u->RZ θ z b v->A.units+n<cLine->ZD A z.s u v r
noncomputable def Sg(θ:Th)(z:Z)(n:Nat):Prop:=∀ {h g d f r} {A:Around},fW n z.σ h g=some r->j0 θ z h d->j0 θ z g f->A.units+n<cLine->
 d.length=f.length/\∃e:Nat->Bool,(∀j (l:j<d.toArray.size) (k:j<f.toArray.size),EqAt A z.s d.toArray[j] f.toArray[j] (e j))/\(List.range d.length).all e=r
theorem pg[BEq α][LawfulBEq α][DecidableEq α](x y:α):(x==y)=decide (x=y):=by
 by_cases q:x=y
 ·erw[bq q,q];exact beq_self_eq_true y
 ·exact aU (bA q) (beq_eq_false_iff_ne.mpr q)
theorem wC(n:Nat):(List.range n).all (λ _=>true)=true:=by simp
theorem WI(S:ec θ z)(ih:Sg θ z n):Xz θ z (n+1):=fun{a b u v r A} h B m hu=>by
 have f:A.units<cLine:=Nat.lt_of_le_of_lt (Nat.le_add_right ..) hu;have Yl:A.in1.units+n<cLine:=by show A.units+1+n<cLine;exact jI (.j (.a (.a W0 (.c 1)) W1) W2) [.j (.a W0 (.a W1 (.c 1))) W2] (.l [1,1]) rfl hu
 induction a using V.casesOn with
 |int x=>rwa[ac (bc (o:=gD b) h),y t gU];subst gU;rwa[aW (m.gD t),_ ip];subst ip;rwa[aW (RV.iO B),_ iB];subst iB;rw[← pg];exact⟨RcAt.int_int _ _ _ _,EqAt.int_int _ _ _ _,RcNeAt.int_int _ _ _ _⟩
 |str x=>rwa[ac (bc (o:=A4 b) h),y t d8];subst d8;rwa[aW (m.A4 t),_ fu];subst fu;rwa[aW (RV.iN B),_ fZ];subst fZ;rw[← pg];exact⟨RcAt.str_str _ _ _ _,EqAt.str_str _ _ _ _,RcNeAt.str_str _ _ _ _⟩
 |none=>
  obtain rfl:=RV.sQ B
  induction b using V.casesOn with
  |none=>obtain rfl:=RV.sQ m;obtain rfl:=an (h);exact⟨RcAt.none_none,EqAt.same _,RcNeAt.none_none⟩
  |str=>rwa[aW (RV.iN m),_ O,O];obtain rfl:=an (h);exact⟨RcAt.none_str _ _,EqAt.none_str _ _,RcNeAt.none_str _ _⟩
  |_=>exact aD (h)
 |tup xs=>
  rwa[ac (aE (o:=EO b) h),ys t h]
  split at h
  ·rwa[cX (RV.mw B),p us gm Y H];subst gm;rwa[cX (m.EO t),q vs iJ U h4];subst iJ;rwa[aK (ih (A:=A.in1) h H h4 Yl),s iU];rwa[ac iU,e G L,-iU];have VF:((List.range (min us.toArray.size vs.toArray.size)).all e&&us.toArray.size==vs.toArray.size)=r:=by simp [s,← L]
   have d:=RcAt.tuples Y U f G;have k:=RcNeAt.tuples Y U f G;rw[VF]at d k;refine⟨d,?_,k⟩;by_cases w:p=q
   ·subst w;obtain rfl:=qf Y U;exact aU ((mM S n).2 _ _ _ _ h H h4) (.same _)
   ·exact .of_refs w d
  ·exact aD (h)
 |ref i=>
  rwa[ac (aE (o:=rK z.σ i) h),xs t h];rwa[d9 (S.rK t B),p ws l];obtain rfl:=l.u
  induction b using V.casesOn with
  |str y=>rwa[aW (RV.iN m),_ O,O];obtain rfl:=an (h);exact⟨RcAt.list_str _ _ l.il f,EqAt.list_str _ _ l.il f,RcNeAt.list_str _ _ l.il f⟩
  |ref j=>
   rwa[ac (aE (o:=rK z.σ j) h),ys H h];rwa[d9 (S.rK H m),q om g];obtain rfl:=g.u;by_cases J:i=j
   ·rw[if_pos J]at h;obtain rfl:=an (h);subst J;obtain rfl:p=q:=an (l.foot.symm.trans g.foot);have d:=RcAt.lists (e:=λ _=>true) l.il l.il rfl f λ j z1 z2=>EqAt.same _;have k:=RcNeAt.lists (e:=λ _=>true) l.il l.il rfl f λ j z1 z2=>EqAt.same _;rw[wC]at d k;exact⟨d,.same _,k⟩
   ·rw[if_neg J]at h;have iI:p≠q:=λ w=>J (an (l.own.symm.trans (w▸g.own)))
    split at h
    ·rwa[aK (ih (A:=A.in1) h l.rs g.rs Yl),s jl];rwa[ac jl,e G L,-jl];have d:=RcAt.lists l.il g.il s f G;have k:=RcNeAt.lists l.il g.il s f G;have w:(List.range ws.toArray.size).all e=r:=L;rw[w]at d k;exact⟨d,.of_refs iI d,k⟩
    ·rename_i dT;obtain rfl:=an (h);have s:=bne_iff_ne.mpr λ w=>dT (l.len.trans (w.trans g.len.symm));have d:=RcAt.lists_lengths l.il g.il s f;exact⟨d,.of_refs iI d,RcNeAt.lists_lengths l.il g.il s f⟩
  |_=>exact aD (h)
 |_=>exact aD (h)
theorem WJ(B:Xz θ z n)(Y:Sg θ z n):Sg θ z (n+1):=fun{as bs us vs r A} h s d G=>by
 have g:=Nat.lt_of_succ_lt G
 cases s with
 |nil=>cases d with
  |nil=>obtain rfl:=an (h);exact⟨rfl,λ _=>true,λ j w=>absurd w (Nat.not_lt_zero _),rfl⟩
  |cons=>exact aD (h)
 |cons x o=>cases d with
  |nil=>exact aD (h)
  |cons y m=>
   rwa[ac (aE h),p U h];rwa[ac (bc h),q O t];subst t;rwa[aK (Y (A:=A) O o m g),J f];rwa[ac f,e L H,-f];refine⟨congrArg (· +1) J,Nat.rec p λ j _=>e j,λ j l k=>?_,?_⟩
   ·induction j with
    |zero=>exact(B U x y g).eq
    |succ j=>exact L j (Nat.lt_of_succ_lt_succ l) (Nat.lt_of_succ_lt_succ k)
   ·erw[List.length_cons,List.range_succ_eq_map,List.all_cons,List.all_map]
    show(p&& (List.range _).all e)=_;exact aU H rfl
theorem uh(S:ec θ z):∀n,Xz θ z n/\Sg θ z n
 |0=>⟨λ h=>(aD (h)),λ h=>(aD (h))⟩
 |n+1=>⟨WI S (uh S n).2,WJ (uh S n).1 (uh S n).2⟩
end
section
variable{θ:Th}{z:Z}{A:Around}{X:Value->Shared->Prop}{a b c:V}{u v x:Value}{Q:V->St->Prop}{E:Str->St->Prop}{K:Value->Shared->Prop}{s':Shared}{i n:Nat}{r:Bool}
noncomputable def on:Value->Value->Bool
 | .none,.none=>true
 | .int x _,.int y _=>x==y
 | .str x _,.str y _=>x==y
 |_,_=>false
inductive qT:V->Value->Prop
 |none:qT .none .none
 |int (i:Int) (t:Tok):qT (.int i) (.int i t)
 |str (i:Str) (t:Tok):qT (.str i) (.str i t)
theorem xc(e:ki a=true)(d:RZ θ z a u):qT a u:=by
 induction a using V.casesOn with
 |none=>obtain rfl:=RV.sQ d;exact .none
 |int=>rwa[aW (RV.iO d),_ f];subst f;exact .int _ _
 |str=>rwa[aW (RV.iN d),_ g];subst g;exact .str _ _
 |_=>exact bZ Bool.ctorIdx (e) rfl
theorem yy(e:qT a u)(d:qT b v):EqAt A s u v (on u v)/\on u v=jL a b:=by
 induction e with
 |none=>induction d with
  |none=>exact⟨.same _,rfl⟩
  |int=>exact⟨.none_int _ _,rfl⟩
  |str=>exact⟨.none_str _ _,rfl⟩
 |int=>induction d with
  |none=>exact⟨.int_none _ _,rfl⟩
  |int=>exact⟨.int_int _ _ _ _,pg _ _⟩
  |str=>exact⟨.int_str _ _ _ _,rfl⟩
 |str=>induction d with
  |none=>exact⟨.str_none _ _,rfl⟩
  |int=>exact⟨.str_int _ _ _ _,rfl⟩
  |str=>exact⟨.str_str _ _ _ _,pg _ _⟩
theorem vd(j:qT b v)(r:j0 θ z e d):e.all ki=true->(∀y,y∈d->EqAt A z.s y v (on y v))/\d.any (on · v)=e.any (jL · b):=
 et.ind (m:=λ e d=>e.all ki=true->(∀y,y∈d->EqAt A z.s y v (on y v))/\d.any (on · v)=e.any (jL · b)) (λ _=>⟨λ y h=>(bQ (h)),rfl⟩) (λ x _ f h=>by
  rw[List.all_cons]at h;have q:=xc (bV h).1 x;have f:=f (bV h).2;refine⟨λ y g=>?_,by erw[List.any_cons,List.any_cons,(yy (A:=A) (s:=z.s) q j).2,f.2];rfl⟩;rcases List.mem_cons.mp g with rfl|g
  ·exact(yy q j).1
  ·exact f.1 y g) r
theorem CG(h:FW a b=some r)(e:RZ θ z a u)(d:RZ θ z b v):plainIs u v=true/\(u==v)=r:=by
 induction b using V.casesOn with
 |none=>
  obtain rfl:=RV.sQ d
  cases e with
  |bi=>exact aD (h)
  |_=>obtain rfl:=an (h);exact⟨rfl,rfl⟩
 |_=>exact aD (h)
theorem kP[BEq α](k:α):∀ (d:List (α×f)),(d.find? (·.1==k)).isSome=d.any (·.1==k)
 | []=>rfl
 |e::r=>by erw[List.find?_cons,List.any_cons];cases e.1==k<;> simp [kP k r]
theorem pN(h:qU R p q):q.isSome=p.isSome:=by rcases h with ⟨⟩<;> rfl
theorem map_some{α d:Type}{f:α->d}{o:Option α}:(o.map f).isSome=o.isSome:=by rcases o with ⟨⟩<;> rfl
theorem sy(h:md a d=some r):ki a=true/\d.all ki=true/\d.any (jL · a)=r:=by
 unfold md at h
 cases e:ki a&&d.all ki with
 |false=>rw[e]at h;exact aD (h)
 |true=>rw[e]at h;exact(bN ((bV e).1) ((bV e).2) (an h))
theorem tC(W:Wd θ)(S:ec θ z)(o:z.own p=some i):(p==sysModules)=false:=beq_eq_false_iff_ne.mpr λ q=>W.sys (q▸S.lo p i o)
theorem lY{G:Prop}{o:Option Bool}{d:St}(h:wp (vk o) Q E d)(k:∀b,o=some b->Q (.bool b) d->G):G:=bW h λ b e h=>k b e (d5 h)
theorem FX(W:Wd θ)(f:wp (Yd a b) Q E z.σ)(S:ec θ z)(B:RZ θ z a u)(j:RZ θ z b v)(H:Ends θ eH z (RZ θ) Q K):wpAny (model θ.prog θ.w) A (compareOp .In u v) K X z.s:=by
 induction b using V.casesOn with
 |tup U=>
  rwa[lY f,r e J];rwa[cX (RV.mw j),q O cH t rs];subst cH;rwa[cA (sy e),g h dy];subst dy;have p:=vd (A:=A.in1) (xc g B) rs h;refine in_tupleAt (on · u) t (λ y G=>p.1 y (List.mem_toArray.mp G)) ?_
  erw[List.any_toArray,p.2]
  exact bP H S J (.bool _)
 |ref d=>
  rwa[bW f,o g f]
  induction o with
  |list U=>
   rwa[lY f,r e J];rwa[d9 (S.Hx g j),q O l];obtain rfl:=l.u;rwa[cA (sy e),g h eK];subst eK;have p:=vd (A:=A.in1) (xc g B) l.rs h;refine in_listAt (on · u) l.il (λ y G=>p.1 y (List.mem_toArray.mp G)) ?_
   erw[List.any_toArray,p.2]
   exact bP H S J (.bool _)
  |dM es=>rwa[bW f,k h f];rwa[ac (RV.gS j),p fO e1];subst fO;rwa[aW (B.gD h),_ gU];subst gU;rwa[cA (S.obj _ _ _ g e1),o _ L];rwa[ac L,m Y hf,-L];refine wpAny_in_of (knd:=intKind θ.prog θ.w) (k:=k) I7 (tC W S o) Y ?_;rw[pN (hf k),map_some,kP];exact bP H S (d5 f) (.bool _)
  |_=>exact(jp f).elim
 |_=>exact(jp f).elim
theorem Fe(h:Im o=some d):o=.fS d:=by
 induction o with
 |fS=>obtain rfl:=an (h);rfl
 |_=>exact aD (h)
theorem BZ(W:Wd θ)(e:wp (L9 a b) Q E z.σ)(S:ec θ z)(j:RZ θ z a u)(h:RZ θ z b v)(y:Ends θ eH z (RZ θ) Q K):wpAny (model θ.prog θ.w) A (compareOp .NotIn u v) K X z.s:=by refine bW e λ d J e=>bW e λ k H e=>bW e λ Y G U=>?_;rwa[ac (h.A5 J),p l L];subst l;rwa[aW (j.A4 H),_ O];subst O;rwa[ac (aE G),ob f B];rw[Fe B]at f;rwa[aK (S.obj _ _ _ f L),o g];rwa[ac g,m q t,-g];refine wpAny_notIn_of (knd:=strKind θ.prog θ.w) (k:=k) LI (tC W S o) q ?_;rw[pN (t k),map_some,kP];exact bP y S (d5 U) (.bool _)
theorem Bc{d:St}{m:St->M V}(h:wp (λ s=>m s s) Q E d):wp (m d) Q E d:=by unfold wp at h ⊢;exact h
theorem HF(S:ec θ z)(e:lQ n z.σ a b=some r)(f:RZ θ z a u)(d:RZ θ z b v)(g:A.units+n<cLine):ZD A z.s u v r:=(uh S n).1 e f d g
theorem jC{p:CmpOp}(W:Wd θ)(B:A.units+dY<cLine)(d:wp (bz p a b) Q E z.σ)(S:ec θ z)(k:RZ θ z a u)(j:RZ θ z b v)(l:Ends θ eH z (RZ θ) Q K):wpAny (model θ.prog θ.w) A (compareOp p u v) K X z.s:=by
 have jz:∀ {f:Int->Int->Bool},wp (jz a b λ x y=>iS (.bool (f x y))) Q E z.σ->∃x t y g,u=.int x t/\v=.int y g/\K (.bool (f x y)) z.s:=λ d=>jb d λ x y h1 h2 d=>by rwa[aW (k.gD h1),t fZ];subst fZ;rwa[aW (j.gD h2),g gm];subst gm;exact(tW x t y g rfl rfl (bP l S (d5 d) (.bool _)))
 induction p with
 |Eq=>exact lY (Bc (m:=λ s=>vk (lQ dY s a b)) d) λ r e o=>(HF S e k j B).rc _ _ X _ (bP l S o (.bool _))
 |NotEq=>rwa[lY (Bc (m:=λ s=>vk ((lQ dY s a b).map (!·))) d),r e o];rwa[ac (bc e),r q iJ];subst iJ;exact(HF S q k j B).ne _ _ X _ (bP l S o (.bool _))
 |Is=>rwa[lY d,r e o];have h:=CG e k j;exact wpAny_is_plain h.1 (by exact aU h.2 (bP l S o (.bool _)))
 |IsNot=>rwa[lY d,r e o];rwa[ac (bc e),r q iU];subst iU;have h:=CG q k j;exact wpAny_isNot_plain h.1 (by exact aU h.2 (bP l S o (.bool _)))
 |Lt=>rwa[mr (jz d),x t y g jl Y h];subst jl;subst Y;exact lt_int h
 |LtE=>rwa[mr (jz d),x t y g U O h];subst U;subst O;exact le_int h
 |Gt=>rwa[mr (jz d),x t y g L J h];subst L;subst J;exact gt_int h
 |GtE=>rwa[mr (jz d),x t y g G H h];subst G;subst H;exact ge_int h
 |In=>exact FX W d S k j l
 |NotIn=>exact BZ W d S k j l
end
end
section
open PySem PyProof.Rows
section
variable{M:Program}{w:World}{A:Around}{X:Value->Shared->Prop}{s:Shared}
theorem BK{l:Addr}{d:Array Value}{n:Nat}{k:Int}{t:Tok}{v:Value}{Q:Unit→Shared→Prop}(e:s.heap.get? l=some {cls:=.type "list",data:=.seq d n})(q:d.size≤1000000)
  (h:0<=k) (m:k<d.size) (g:Q () {s with heap:=s.heap.update l (Obj.mapSeq (·.setIfInBounds k.toNat v))}):
  wpAny (model M w) A (setItem (.ref l) (.int k t) v) Q X s:=by
 have f:s.TypeIs (.ref l) "list" :=(aw _ e rfl);unfold setItem
 with_reducible refine wpAny_holding ?_
 first|refine wpAny_bind (wpAny_pure ?_)|skip
 refine wpAny_bind (wpAny_sequenceKey f (by decide) ?_);refine wpAny_bind (wpAny_callSpecial?_slot (name:=Str.ofString "__setitem__") f slot_list_setitem (wpAny_call_entry slot_list_setitem f entry_list_setitem ?_ (args_list_setitem _ _ _)));show wpAny _ _ (Builtin.List.listSubscript? (.int k t) >>= _) _ _ s;refine wpAny_bind (wpAny_listSubscript_int (fitsIndex_of h (by omega)) ?_);rwa[aW (Int.eq_ofNat_of_zero_le h),j p];subst p;have o:=Int.ofNat_lt.mp m;show wpAny _ _ ((seqItemAt l j >>= λ r=>pure (r.map (j,·))) >>= _) _ _ s;refine wpAny_bind (wpAny_bind (wpAny_seqItemAt e rfl (wpAny_pure ?_)))
 erw[Array.getElem?_eq_getElem o]
 show wpAny _ _ (setSeqItemAt l j v >>= _) _ _ s;refine wpAny_bind (wpAny_setSeqItemAt e rfl ?_)
 first
  |exact wpAny_bind (wpAny_pure (wpAny_pure (aw .none rfl (wpAny_pure g))))
  |exact wpAny_pure ⟨.none,rfl,wpAny_pure g⟩
theorem set_dict(hm:s.heap.MapOf (intKind M w) d f)(hz:s.heap.DictLe d n)(hn:n<=1000000)
  (hQ:∀g,g.MapOf (intKind M w) d (λ x=>if x=k then some v else f x)->g.DictLe d (if(f k).isSome then n else n+1)->Heap.SameBut d s.heap g->Q () {s with heap:=g,toks:=s.toks+1}):
  wpAny (model M w) A (dictSet d (.int k t) v) Q X s:=by
 rwa[qC hm,o B ep l hx h H J,-hm];have O:=hz _ _ _ l h;unfold dictSet;have L:(intKind M w).is k (.int k t)=true:=I7
 with_reducible refine wpAny_holding ?_
 refine wpAny_bind (wpAny_pyHash_int ?_);unfold dictSetHashed
 with_reducible refine wpAny_holding ?_
 refine wpAny_bind (wpAny_dictFind_of (knd:=intKind M w) (s:={s with toks:=s.toks+1}) L l h H ?_);have q:=J k;rw[findBy_of_findIdx?]at q;have cT:∀g j U m,g.get? d=some m->m.ExactDict->m.data=.dict j U->KeysOf (intKind M w) j->(∀y,findBy (intKind M w).is j y=if y=k then some v else f y)->
   j.size<= (if(f k).isSome then n else n+1)->Heap.SameBut d s.heap g->Q () {s with heap:=g,toks:=s.toks+1}:=λ g j U m q1 q2 q3 q4 q5 q6 q7=>
  hQ g (qj m j U q1 q2 q3 q4 q5) (λ fc Az Z6 z1 Y=>by obtain rfl:=an (q1.symm.trans z1);rw[q3]at Y;cases Y;exact q6) q7
 cases p:B.findIdx? λ e=>(intKind M w).is k e.key with
 |some i=>
  rw[p]at q;have lL:i<B.size:=(Array.findIdx?_eq_some_iff_getElem.mp p).1;have G:(f k).isSome=true:=by refine fM q ?_;simp [lL]
  refine wpAny_bind (wpAny_rule (wpAny_bind (wpAny_updateDict (s:={s with toks:=s.toks+1}) l h (wpAny_point (cT _ _ _ _ (Heap.get?_update_self _ l (Obj.isFreed_of_dict (Obj.data_mapDict h _)))
   (hx.mapDict _) (Obj.data_mapDict h _) (H.modify _ _) (λ y=>?_) ?_ (Heap.SameBut.update ..))))))
  ·rw[findBy_modify _ (intKind M w).inj B k y v i p,J]
  ·erw[G];simpa using O
 |none=>
  rw[p]at q;have G:(f k).isSome=false:=by exact fM q rfl
  refine wpAny_bind (wpAny_rule (wpAny_updateDictKeys (hz:=Nat.le_trans O (Nat.le_trans hn (by decide))) (s:={s with toks:=s.toks+1}) l h (cT _ _ _ _ (Heap.get?_update_self _ l (Obj.isFreed_of_dict (Obj.data_mapDictKeys h _)))
   (hx.mapDictKeys _) (Obj.data_mapDictKeys h _) (H.push L _) (λ y=>?_) ?_ (Heap.SameBut.update ..))))
  ·rw[findBy_push _ B k y _ _ v (KeyKind.is_eq_decide L) p,J]
  ·erw[G];simpa using O
theorem BL(h:s.heap.MapOf (intKind M w) d f)(hz:s.heap.DictLe d n)(j:n<=1000000)
  (l:∀e,e.MapOf (intKind M w) d (λ x=>if x=k then some v else f x)->e.DictLe d (if(f k).isSome then n else n+1)->Heap.SameBut d s.heap e->Q () {s with heap:=e,toks:=s.toks+1}):
  wpAny (model M w) A (setItem (.ref d) (.int k t) v) Q X s:=by
 have g:=h.typeIs;unfold setItem
 with_reducible refine wpAny_holding ?_
 first|refine wpAny_bind (wpAny_pure ?_)|skip
 refine wpAny_bind (wpAny_sequenceKey g (by decide) ?_);refine wpAny_bind (wpAny_callSpecial?_slot (name:=Str.ofString "__setitem__") g slot_dict_setitem (wpAny_call_entry slot_dict_setitem g entry_dict_setitem ?_ (args_dict_setitem _ _ _)));show wpAny _ _ (Builtin.Dict.notOrdered "__setitem__" ⟨[.ref d,.int k t,v],[]⟩ >>= _) _ _ s;refine wpAny_bind (wpAny_notOrdered_dict g ?_);show wpAny _ _ (dictSet d (.int k t) v >>= _) _ _ s;exact wpAny_bind (set_dict h hz j λ e a b c=>wpAny_pure (aw .none rfl (wpAny_pure (l e a b c))))
end
theorem Dq{g:List (Int×V)}(k:Int)(v:V)(q:Int):(g.map λ e=>if e.1==k then(k,v)else e).find? (·.1==q)=if q=k then(g.find? (·.1==k)).map λ _=>(k,v)else g.find? (·.1==q):=by
 induction g with
 |nil=>split<;> rfl
 |cons e r h=>
  erw[List.map_cons,List.find?_cons,h,List.find?_cons,List.find?_cons]
  by_cases f:e.1=k
  ·erw[if_pos (beq_iff_eq.mpr f)]
   by_cases d:q=k
   ·subst d;rw[beq_iff_eq.mpr f,beq_self_eq_true];simp
   ·erw[if_neg d,if_neg d,f,beq_eq_false_iff_ne.mpr λ z=>d z.symm];rfl
  ·erw[if_neg λ z=>f (beq_iff_eq.mp z),beq_eq_false_iff_ne.mpr f]
   by_cases d:q=k
   ·subst d;erw[beq_eq_false_iff_ne.mpr f];rfl
   ·erw[if_neg d,if_neg d];rfl
theorem Dp(k:Int)(v:V)(e:List (Int×V))(q:Int):((xb k v e).find? (·.1==q)).map (·.2)=if q=k then some v else(e.find? (·.1==q)).map (·.2):=by
 unfold xb;by_cases h:e.any (·.1==k)=true
 ·rw[if_pos h,Dq];by_cases d:q=k
  ·rw[if_pos d,if_pos d];rw[← kP]at h;exact aW (Option.isSome_iff_exists.mp h) λ y f=>aU f rfl
  ·rw[if_neg d,if_neg d]
 ·erw[if_neg h,List.find?_append]
  by_cases d:q=k
  ·subst d
   erw[if_pos rfl,List.find?_eq_none.mpr (λ a g=>List.any_eq_false.mp (Bool.eq_false_iff.mpr h) a g)]
   simp
  ·have: ¬ k=q:=λ z=>d z.symm
   erw[if_neg d]
   cases e.find? (·.1==q)<;> simp [this]
theorem Fy(k:Int)(v:V)(d:List (Int×V)):(xb k v d).length=if(d.find? (·.1==k)).isSome then d.length else d.length+1:=by
 rw[kP];unfold xb
 split
 ·rw[bo]
 ·exact aU List.length_append rfl
section
variable{θ:Th}{z:Z}{A:Around}{X:Value->Shared->Prop}{a b c:V}{u v x:Value}{Q:V->St->Prop}{E:Str->St->Prop}{K:Value->Shared->Prop}{s':Shared}{i n:Nat}{r:Bool}
theorem ec.Ig(S:ec θ z)(m:z.φ[i]?= some p)(h:z.own p=some i)(g:Heap.SameBut p z.s.heap d)(k:d.get? p=some ob)(j:kn ob)
  (x:dW z.s.heap d->RO θ ⟨z.φ,z.own,z.σ.set i o,{z.s with heap:=d,toks:=t}⟩ i p o):Nx θ eH z ⟨z.φ,z.own,z.σ.set i o,{z.s with heap:=d,toks:=t}⟩:=
 S.write (s':={z.s with heap:=d,toks:=t}) m h (λ b o f l=>(g.2 b λ e=>f (e▸h)).trans l) rfl rfl (λ b f=>by
  by_cases e:b=p
  ·exact(aw ob (e▸k) j)
  ·exact(S.there b i f).imp λ ob w=>⟨(g.2 b e).trans w.1,w.2⟩) x
theorem ou{y:Value}{Q:Unit->St->Prop}{K:Shared->Prop}(g:wp (ik a b c) Q E z.σ)(S:ec θ z)(B:RZ θ z a u)(rb:RZ θ z b v)(J:RZ θ z c y)(Y:Q1 θ z Q K):
  wpAny (model θ.prog θ.w) A (setItem u v y) (λ _=>K) X z.s:=by
 refine bW g λ d h1 g=>bW g λ k h2 g=>bW g λ o h3 g=>?_;have B:=n6 h1▸B;rwa[aW (rb.gD h2),t b7];subst b7
 induction o with
 |list vs=>
  rwa[gA g,h G];have h:=El h;rwa[d9 (S.Hx h3 B),p H l];obtain rfl:=l.u;rwa[aW l.pl,n L];have O:(z.s.heap.update p (Obj.mapSeq (·.setIfInBounds k.toNat y))).get? p=some {cls:=.type "list",data:=.seq (H.set k.toNat y).toArray n}:=by erw[Heap.get?_update_self _ L rfl];simp [Obj.mapSeq]
  exact BK L (by exact aU List.size_toArray (fM l.len l.le)) h.1 (by exact aU List.size_toArray (fM l.len h.2)) (Y ⟨z.φ,z.own,z.σ.set d _,_⟩ (s5 G)
   (S.Ig l.foot l.own (Heap.SameBut.update ..) O (tz rfl) λ j=>⟨by exact aU List.length_set l.le,H.set k.toNat y,⟨n,O⟩,et.set (l.rs.mono j (List.prefix_refl _)) (J.mono j (List.prefix_refl _)) _⟩))
 |dM es=>
  rwa[gA g,h G];have h:=of_decide_eq_true h;rwa[ac (RV.gS B),p cH e1];subst cH;rwa[cA (S.obj _ _ _ h3 e1),ho hl dy];rwa[ac dy,m hm U,-dy];rwa[BL hm hl (Nat.le_of_lt (Nat.lt_trans h (by decide))),h' EI ua hs];rwa[ig (id EI),o kz ep g1 _ g2 _];refine Y ⟨z.φ,z.own,z.σ.set d _,_⟩ (s5 G) (S.Ig e1 ho hs g1 (λ _ ED n q=>bZ Data.ctorIdx (g2.symm.trans q) rfl) λ j=>⟨?_,_,EI,λ q=>?_⟩)
  ·rw[Fy,← map_some (f:=λ e:Int×V=>e.2),← pN (U k)];exact ua
  ·rw[Dp];by_cases e:q=k
   ·rw[if_pos e,if_pos e];exact .some (J.mono j (List.prefix_refl _))
   ·rw[if_neg e,if_neg e];exact(U q).imp λ _ _ r=>r.mono j (List.prefix_refl _)
 |_=>exact(jp g).elim
theorem uX(l:Ends θ eH z (RZ θ) Q K)(S:ec θ z)(m:Q (.ref z.σ.length) (z.σ++[.list f]))(r:j0 θ z f d)(k:f.length<=1000000):
  K (.ref (z.s.heap.objs.size+1)) {z.s with heap:=(z.s.heap.push {cls:=.type "slice",data:=.fields #[j,g,.none]}).push {cls:=.type "list",data:=.seq d.toArray}}:=by
 refine jN (n:=0) l S m (λ b o e=>Heap.get?_push_of_some _ (Heap.get?_push_of_some _ e)) (Heap.get?_none_of_le (Nat.le_succ _)) ?_ rfl rfl r k;have:=rX (h:=z.s.heap.push {cls:=.type "slice",data:=.fields #[j,g,.none]}) (ws:=d.toArray);rwa[Heap.size_push]at this
structure Xo(s:Shared)(u:Value)(l:Addr)(items:Array Value):Prop where
 u:u=.ref l
 il:s.heap.IsList l items
 le:items.size<=sizeLine
theorem By(f:wp (uY a b) Q E z.σ)(S:ec θ z)(m:RZ θ z a u)(h:RZ θ z b v)(q:Ends θ eH z (RZ θ) Q K):
  ∃l e k,Xo z.s u l e∧IsPart v (some k)∧K (.ref (z.s.heap.objs.size+1)) {z.s with heap:=(z.s.heap.push {cls:=.type "slice",data:=.fields #[v,.none,.none]}).push {cls:=.type "list",data:=.seq (slicePick e (some k) none none)}}:=by
 refine bW f λ k B f=>gA f λ o f=>bW f λ L y J=>?_;rwa[aW (h.gD B),t H];subst H;rwa[kW (S.vL y m),d p g l];rwa[aW (Int.eq_ofNat_of_zero_le (of_decide_eq_true (bV o).1)),j G];subst G;refine(gN p g.toArray j ⟨l.u,l.il,by erw[sizeLine_eq,List.size_toArray];exact fM l.len (Nat.le_trans l.le (by decide))⟩ (.int _ _) ?_);rw[slicePick_from'];exact uX q S (hZ J) (et.drop l.rs _) (by rw[List.length_drop];exact Nat.le_trans (Nat.sub_le ..) l.le)
theorem Bz(f:wp (uZ a b) Q E z.σ)(S:ec θ z)(m:RZ θ z a u)(h:RZ θ z b v)(y:Ends θ eH z (RZ θ) Q K):
  ∃l e k,Xo z.s u l e∧IsPart v (some k)∧K (.ref (z.s.heap.objs.size+1)) {z.s with heap:=(z.s.heap.push {cls:=.type "slice",data:=.fields #[.none,v,.none]}).push {cls:=.type "list",data:=.seq (slicePick e none (some k) none)}}:=by
 refine bW f λ k G f=>gA f λ q f=>bW f λ L B J=>?_;rwa[aW (h.gD G),t H];subst H;rwa[kW (S.vL B m),d p g l];rwa[aW (Int.eq_ofNat_of_zero_le (of_decide_eq_true (bV q).1)),j o];subst o;refine(gN p g.toArray j ⟨l.u,l.il,by erw[sizeLine_eq,List.size_toArray];exact fM l.len (Nat.le_trans l.le (by decide))⟩ (.int _ _) ?_);rw[slicePick_upto'];exact uX y S (hZ J) (et.take l.rs _) (by rw[List.length_take];exact Nat.le_trans (Nat.min_le_right ..) l.le)
theorem oy{a b:Int}(e:iZ a=true)(d:iZ b=true):Builtin.Range.small a b 1=true:=by have g:=jt e;have f:=jt d;exact small_one (by omega) (by omega) (by omega) (by omega)
theorem rU:∀ (l:List Value) (a:Int),(∀ (j:Nat) v,l[j]?= some v->∃t,v=.int (a+(j:Int) * 1) t)->et P h φ ((List.range l.length).map fun(k:Nat)=>V.int (a+(k:Int))) l
 | [],_,_=>.nil
 |x::l,a,d=>by
  erw[List.length_cons,List.range_succ_eq_map,List.map_cons,List.map_map]
  refine .cons ?_ ?_
  ·rwa[aW (d 0 x rfl),t f];subst f;simpa using RV.int a t
  ·have:=rU (P:=P) (h:=h) (φ:=φ) l (a+1) λ j v g=>by rwa[aW (d (j+1) v g),t m];subst m;exact⟨t,by congr 1;exact kJ (.q (.a Y0 (.n (.t (.a W0 (.c 1))) 1)) (.a (.a Y0 (.c 1)) (.n (.t W0) 1))) [] (.s 0 (.l [1]) (.l [1])) rfl⟩
   have e:((fun(k:Nat)=>V.int (a+(k:Int)))∘Nat.succ)=fun(k:Nat)=>V.int (a+1+(k:Int)):=by funext k;simp only[Function.comp];congr 1;exact Mn
   exact aU e this
theorem w9{P:Places}{h:Heap}{φ:wI}{a:Int}{d:Array Value}{n:Nat}(x:ItemsOf (λ i v=>∃t,v=.int (a+i * 1) t) d n):
  et P h φ ((List.range n).map fun(k:Nat)=>V.int (a+(k:Int))) d.toList:=by
 rwa[aK x,g f,-x];exact fM g (fM Array.length_toList (rU _ a λ j v e=>f j v (by exact fM (Array.getElem?_toList) e)))
theorem w8{a b:Int}{t u v:Tok}{n:Addr}(o:A.handled=none)(y:iZ a=true)(q:iZ b=true)(j:wp (lZ ((di a b).map V.int)) Q E z.σ)(S:ec θ z)(J:IsRange z.s.heap n a b 1 t u v)(B:Ends θ eH z (RZ θ) Q K):
  wpAny (model θ.prog θ.w) A (call (.type "list") [.ref n]) K X z.s:=by
 rwa[mZ j,p H];have d:=gV p;have f:((di a b).map V.int).length=(b - a).toNat:=by rw[bo];unfold di;rw[bo,List.length_range]
 rw[f]at d;rwa[call_list_range o J (oy y q) (rangeSize_nat a b) (Nat.le_trans d (by decide)),G g e L l k m];have r:=w9 (P:=θ.P) (h:=z.s.heap) (φ:=z.φ) m;refine jN (s':={z.s with heap:=G,toks:=g}) (ws:=e.toList) B S H l (Heap.get?_none_of_le (Nat.le_refl _)) (by exact aU Array.toArray_toList k) rfl rfl ?_ (by exact aU f d);unfold di;exact aU List.map_map r
end
theorem uA:∀ {d:List V} {ns:List Int},jj d=some ns->∀ {θ:Th} {z:Z} {f:List Value},j0 θ z d f->IntsAre f ns
 | [],_,e,_,_,_,r=>by obtain rfl:=an (e);cases r;exact .nil
 |v::d,ns,e,_,_,_,r=>by
  rwa[ac (aE e),i h e];rwa[ac (bc e),l g j];subst j
  cases r with
  |cons x y=>rwa[aW (RZ.gD x h),t k];subst k;exact .cons i t (uA g y)
theorem qs{f:Int->Int->Int}{R:Int->Int->Prop}(j:∀x,R x x)(g:∀ {x y z},R x y->R y z->R x z)(m:∀x y,R (f x y) x)(l:∀x y,R (f x y) y)(k:∀x y,f x y=x∨f x y=y):
  ∀ (r:List Int) (x:Int),R (r.foldl f x) x/\(∀y∈r,R (r.foldl f x) y)/\(r.foldl f x=x∨r.foldl f x∈r)
 | [],x=>(bN (j _) (λ y h=>absurd h List.not_mem_nil) (.inl rfl))
 |y::r,x=>by
  have d:=qs j g m l k r (f x y)
  erw[List.foldl_cons]
  refine(bN (g d.1 (m x y)) (λ w hw=>?_) ?_)
  ·rcases List.mem_cons.mp hw with rfl|hw
   ·exact g d.1 (l x w)
   ·exact d.2.1 w hw
  ·rcases d.2.2 with e|e
   ·rcases k x y with q|q
    ·exact .inl (e.trans q)
    ·exact .inr (by erw[e,q];exact .head _)
   ·exact .inr (.tail _ e)
theorem vD{f:Int->Int->Int}{R:Int->Int->Prop}(h:∀x,R x x)(g:∀ {x y z},R x y->R y z->R x z)(t:∀ {x y},R x y->R y x->x=y)(p:∀x y,R (f x y) x)(o:∀x y,R (f x y) y)(l:∀x y,f x y=x∨f x y=y)
  {x:Int} {r:List Int} {m:Int} (j:m∈x::r) (k:∀a,a∈x::r->R m a):m=r.foldl f x:=by
 have q:=qs h g p o l r x;have all:∀a∈x::r,R (r.foldl f x) a:=λ a d=>by
  rcases List.mem_cons.mp d with rfl|d
  ·exact q.1
  ·exact q.2.1 a d
 refine t (k _ ?_) (all m j);rcases q.2.2 with e|e
 ·exact aU e (.head _)
 ·exact .tail _ e
theorem Fp{ns:List Int}{m M:Int}(h:IB ns=some m)(d:M∈ns)(e:∀a,a∈ns->M<=a):M=m:=by
 induction ns with
 |nil=>exact bQ (d)
 |cons x r=>obtain rfl:=an (h);exact vD (R:=λ x y=>x<=y) Int.le_refl Int.le_trans Int.le_antisymm (λ x y=>by split<;> omega) (λ x y=>by split<;> omega) (λ x y=>by split<;> simp) d e
theorem Fs{ns:List Int}{m M:Int}(h:IC ns=some m)(d:M∈ns)(e:∀a,a∈ns->a<=M):M=m:=by
 induction ns with
 |nil=>exact bQ (d)
 |cons x r=>obtain rfl:=an (h);exact vD (R:=λ x y=>y<=x) Int.le_refl (λ a b=>Int.le_trans b a) (λ a b=>Int.le_antisymm b a) (λ x y=>by split<;> omega) (λ x y=>by split<;> omega) (λ x y=>by split<;> simp) d e
section
variable{M:Program}{w:World}{A:Around}{X:Value->Shared->Prop}{s:Shared}
theorem sP(k:s.heap.IsList l h.toArray)(g:IntsAre h ns)(j:ns≠ []):∃d:Array (Int×Tok),s.heap.IsList l (intItems d)/\0<d.size/\ns=d.toList.map (·.1):=by
 rwa[aW g.allInts.items,d e];have f:ns=d.toList.map (·.1):=by rw[← g.numsOf,← nums_intItems,← e]
 refine(cR d (e▸k) ?_ f);refine fM Array.length_toList (List.length_pos_iff.mpr λ q=>j ?_)
 erw[f,q];rfl
theorem B4(J:A.handled=none)(e:s.heap.IsList l q.toArray)(H:IntsAre q ns)(y:ns≠ [])
  (h:∀f m (t:Tok) d,(∀b o,s.heap.get? b=some o->f.get? b=some o)->m∈ns->(∀a,a∈ns->m<=a)->Q (.int m t) {s with heap:=f,toks:=d}):
  wpAny (model M w) A (call (.builtin "min") [.ref l]) Q X s:=by
 rwa[bR (sP e H y),g e k cH];subst cH;rwa[min_intList J e k,v f d B G];rwa[aW (intItems_at B),t dy];subst dy;rwa[aK (argBest_lt (numAt g) (g.size - 1)),Y U];refine h _ _ t d G ?_ λ a O=>?_
 ·rw[numAt_eq];exact getD_mem (by rw[bo,Array.length_toList];exact Mm k Y (Mine.L.uT _ _))
 ·rwa[ac (mem_getD O),j p eK];subst eK;rw[bo,Array.length_toList]at p;rw[← numAt_eq];exact U j (Ml p (Mine.L.uT _ _))
theorem B5(O:A.handled=none)(e:s.heap.IsList l q.toArray)(J:IntsAre q ns)(B:ns≠ [])
  (h:∀f m (t:Tok) d,(∀b o,s.heap.get? b=some o->f.get? b=some o)->m∈ns->(∀a,a∈ns->a<=m)->Q (.int m t) {s with heap:=f,toks:=d}):
  wpAny (model M w) A (call (.builtin "max") [.ref l]) Q X s:=by
 rwa[bR (sP e J B),g e k fO];subst fO;rwa[max_intList O e k,v f d G H];rwa[aW (intItems_at G),t gU];subst gU;rwa[aK (argBest_gt (numAt g) (g.size - 1)),h1 Y];refine h _ _ t d H ?_ λ a U=>?_
 ·rw[numAt_eq];exact getD_mem (by rw[bo,Array.length_toList];exact Mm k h1 (Mine.L.uT _ _))
 ·rwa[ac (mem_getD U),j p y];subst y;rw[bo,Array.length_toList]at p;rw[← numAt_eq];exact Y j (Ml p (Mine.L.uT _ _))
theorem xw(d:s.heap.get? x=some o)(f:o.cls=.ref C)(h:Q (.bool true) s):wpAny (model M w) A (call (.builtin "isinstance") [.ref x,.ref C]) Q X s:=by
 refine call_isinstance_of ?_ (by intro e;cases e)
 unfold Builtin.«isinstance.nested»;refine wpAny_bind (m:=typeOf (.ref x)) (wpAny_typeOf_ref d ?_)
 erw[f]
 show wpAny _ _ (if(Value.ref C==Value.ref C)=true then _ else _) _ _ s
 erw[if_pos (beq_self_eq_true _)]
 repeat first|refine wpAny_pure ?_|refine wpAny_rule ?_|refine wpAny_bind ?_
 exact h
end
section
variable{θ:Th}{z:Z}{A:Around}{X:Value->Shared->Prop}{a b c:V}{u v x:Value}{Q:V->St->Prop}{E:Str->St->Prop}{K:Value->Shared->Prop}{s':Shared}{i n:Nat}{r:Bool}
theorem et.jM(r:j0 θ z [a] d):∃u,d=[u]/\RZ θ z a u:=by
 cases r with
 |cons x y=>cases y;exact(aw _ rfl x)
theorem et.mH(r:j0 θ z [a,b] d):∃u v,d=[u,v]/\RZ θ z a u/\RZ θ z b v:=by
 cases r with
 |cons x y=>rwa[ac (et.jM y),v e z];subst e;exact(c9 _ v rfl x z)
theorem xv(h:CH z.σ a b=some r)(S:ec θ z)(e:RZ θ z a u)(g:RZ θ z b v)(f:∀t,K (.bool r) {z.s with toks:=t}):wpAny (model θ.prog θ.w) A (call (.builtin "isinstance") [u,v]) K X z.s:=by
 induction b using V.casesOn with
 |bi t=>
  induction t with
  |lU=>
   obtain rfl:=RV.Ef g
   induction a using V.casesOn with
   |tup=>obtain rfl:=an (h);rwa[cX (RV.mw e),p G d8 t _];subst d8;exact call_isinstance (isinstance_true (Tx:= "tuple") PySem.F.isi_meta_tuple AutoSeq1.sub_tuple_tuple) ⟨IsTup.typeIs t,f _⟩
   |int=>obtain rfl:=an (h);rwa[aW (RV.iO e),_ fu];subst fu;exact IsiPair.int_tuple (f _)
   |_=>exact aD (h)
  |nF=>
   obtain rfl:=RV.Ef g
   induction a using V.casesOn with
   |tup=>obtain rfl:=an (h);rwa[cX (RV.mw e),p G fZ B _];subst fZ;rwa[bR B,o l j _,-B];exact call_isinstance (isinstance_false_tuple (by decide+kernel) PySem.F.isi_meta_str (by rw[isSubtype_type];kernel_rfl)) ⟨(aw o l j),f _⟩
   |int=>obtain rfl:=an (h);rwa[aW (RV.iO e),_ O];subst O;exact IsiPair.int_str (f _)
   |str=>obtain rfl:=an (h);rwa[aW (RV.iN e),_ L];subst L;exact IsiPair.str_str (f _)
   |_=>exact aD (h)
  |_=>exact aD (h)
 |cls k=>
  rwa[ac (aE (o:=vN z.σ a) h),q l h]
  split at h
  ·rename_i hc;obtain rfl:=an (h);rwa[ac (Ha l),d J j];subst J;rwa[ac (RV.gS e),p H e1];subst H;obtain rfl:=RV.ya g;rwa[aK (S.obj _ _ _ j e1),_ y];rwa[qC y,o dx mA g1 _ _ m _];try clear y;rwa[bR m,o' Y U _,-m]
   exact xw Y (hc.1▸U) (f z.s.toks)
  ·exact aD (h)
 |_=>exact aD (h)
theorem Cm{d:List Value}{n:Nat}(h:n<=1000000)(e:n=d.length):(d.toArray.size:Int)<2 ^ 63:=by erw[List.size_toArray];refine fM e ?_;omega
theorem xm{d:List Value}{n:Nat}(h:n<=1000000)(e:n=d.length):d.toArray.size<=sizeLine:=by erw[sizeLine_eq,List.size_toArray];exact fM e (Nat.le_trans h (by decide))
theorem GW{b:BI}{U:List V}{us:List Value}(W:Wd θ)(hh:A.handled=none)(f:wp (iu b U) Q E z.σ)(S:ec θ z)(k:j0 θ z U us)(G:Ends θ eH z (RZ θ) Q K):wpAny (model θ.prog θ.w) A (call (ux b) us) K X z.s:=by
 induction b with
 |len=>
  rwa[bW f,v j f];rw[fA j]at k;rwa[ac (et.jM k),u oZ r];subst oZ;have B6:wp (λ s=>gO (vL s v) (λ H=>iS (.int H.length)) s) Q E z.σ->wpAny (model θ.prog θ.w) A (call (ux .len) [u]) K X z.s:=λ f=>by rwa[bW f,H g h];rwa[kW (S.vL g r),d p Y l];obtain rfl:=l.u;exact Calls.call_len_list l.il (Cm l.le l.len) (aU List.size_toArray (fM l.len (bP G S (d5 h) (.int _ _))))
  induction v using V.casesOn with
  |ke is=>rwa[dm (RV.Ee W r S),p Y ud hl l1 r1];subst ud;have e:=sw r1;exact Calls.call_len_list l1 (Cm hl e) (aU List.size_toArray (fM e (bP G S (d5 f) (.int _ _))))
  |_=>exact B6 f
 |min=>
  generalize e:yn U=SJ;induction SJ with
  |some p=>
   rw[jJ e]at k;rwa[cX (et.mH k),_ _ xN r r'];subst xN;have f:wp (jz p.1 p.2 λ x y=>iS (.int (if y<x then y else x))) Q E z.σ:=by unfold iu at f;rw[e]at f;exact f
   rwa[jb f,x y j L h];rwa[aW (r.gD j),_ xM];subst xM;rwa[aW (r'.gD L),_ JO];subst JO;have h:=d5 h;rwa[min_two_ints hh,B J o]
   split<;> rename_i q
   ·rw[if_pos q]at h;exact js (s':={z.s with heap:=B,toks:=J}) G S h o rfl rfl (.int _ _)
   ·rw[if_neg q]at h;exact js (s':={z.s with heap:=B,toks:=J}) G S h o rfl rfl (.int _ _)
  |none=>
   have f:wp (λ s=>gO (one U) (λ v=>gO ((vL s v).bind λ H=>(jj H).bind IB) λ m=>iS (.int m)) s) Q E z.σ:=by unfold iu at f;rw[e]at f;exact f
   refine bW f λ v j f=>bW f λ m g h=>?_;rw[fA j]at k;rwa[ac (et.jM k),u JN r];subst JN;rwa[ac (aE g),H g1 g];rwa[ac (aE g),ns g2 O];rwa[kW (S.vL g1 r),d p Y l];obtain rfl:=l.u;exact B4 hh l.il (uA g2 l.rs) (λ q=>by rw[q]at O;exact aD (O)) λ B m t J o j L=>aU (Fp O j L) (js (s':={z.s with heap:=B,toks:=J}) G S (d5 h) o rfl rfl (.int _ _))
 |max=>
  generalize e:yn U=SI;induction SI with
  |some p=>
   rw[jJ e]at k;rwa[cX (et.mH k),_ _ JM r r'];subst JM;have f:wp (jz p.1 p.2 λ x y=>iS (.int (if x<y then y else x))) Q E z.σ:=by unfold iu at f;rw[e]at f;exact f
   rwa[jb f,x y j L h];rwa[aW (r.gD j),_ JL];subst JL;rwa[aW (r'.gD L),_ JK];subst JK;have h:=d5 h;rwa[max_two_ints hh,B J o]
   split<;> rename_i q
   ·rw[if_pos q]at h;exact js (s':={z.s with heap:=B,toks:=J}) G S h o rfl rfl (.int _ _)
   ·rw[if_neg q]at h;exact js (s':={z.s with heap:=B,toks:=J}) G S h o rfl rfl (.int _ _)
  |none=>
   have f:wp (λ s=>gO (one U) (λ v=>gO ((vL s v).bind λ H=>(jj H).bind IC) λ m=>iS (.int m)) s) Q E z.σ:=by unfold iu at f;rw[e]at f;exact f
   refine bW f λ v j f=>bW f λ m g h=>?_;rw[fA j]at k;rwa[ac (et.jM k),u JJ r];subst JJ;rwa[ac (aE g),H g1 g];rwa[ac (aE g),ns g2 O];rwa[kW (S.vL g1 r),d p Y l];obtain rfl:=l.u;exact B5 hh l.il (uA g2 l.rs) (λ q=>by rw[q]at O;exact aD (O)) λ B m t J o j L=>aU (Fs O j L) (js (s':={z.s with heap:=B,toks:=J}) G S (d5 h) o rfl rfl (.int _ _))
 |list=>refine bW f λ v j f=>bW f λ H g h=>?_;rw[fA j]at k;rwa[ac (et.jM k),u JI r];subst JI;rwa[kW (S.vL g r),d p Y l];obtain rfl:=l.u;rwa[aW l.pl,n l1];refine call_list_seq p (.inl rfl) l1 rfl rfl (λ B c' o ho=>?_) (xm l.le l.len);exact jN (s':={z.s with heap:=B}) G S (hZ h) o (Heap.get?_none_of_le (Nat.le_refl _)) ho rfl rfl l.rs l.le
 |isinstance=>refine bW f λ p j f=>lY f λ r e h=>?_;rw[jJ j]at k;rwa[cX (et.mH k),_ _ Ws r1 r2];subst Ws;exact xv e S r1 r2 λ _=>bP G S h (.bool _)
 |_=>exact(jp f).elim
noncomputable def tE:Nat->String
 |0=> "list.append" |1=> "list.extend" |_=> "dict.get"
theorem BQ(m:Ends θ eH z (RZ θ) Q K)(S:ec θ z)(q:Q .none (z.σ.set d (.list e)))(o:z.φ[d]?= some p)(k:z.own p=some d)(j:Heap.SameBut p z.s.heap g)
  (f:g.get? p=some {cls:=.type "list",data:=.seq ws.toArray n}) (l:e.length≤1000000) (r:j0 θ z e ws):K .none {z.s with heap:=g}:=
 m _ _ ⟨z.φ,z.own,z.σ.set d _,_⟩ q (S.Ig (t:=z.s.toks) o k j f (tz rfl) λ h=>⟨l,ws,⟨_,f⟩,r.mono h (List.prefix_refl _)⟩) .none
theorem zY(W:Wd θ)(g:wp (m0 a m as) Q E z.σ)(S:ec θ z)(G:RZ θ z a u)(rs:j0 θ z as us)(L:Ends θ eH z (RZ θ) Q K):wpAny (model θ.prog θ.w) A (call (.builtin (tE m)) (u::us)) K X z.s:=by
 refine bW g λ d h1 g=>bW g λ o h2 g=>?_;have G:=n6 h1▸G
 induction o with
 |list vs=>
  rwa[d9 (S.Hx h2 G),p B l];obtain rfl:=l.u
  induction m with
  |zero=>refine bW g λ v j g=>gA g λ f h=>?_;rw[fA j]at rs;rwa[ac (et.jM rs),u Wq r];subst Wq;have f:=gV f;refine wpAny_list_append_plain l.pl (λ h' ua nz=>?_) (xm l.le l.len);rwa[aW ua,n' km,-ua];exact BQ (ws:=B++[u]) L S (lq h) l.foot l.own nz (by rw[List.push_toArray]at km;exact km) f (l.rs.append (.one r))
  |succ m=>induction m with
   |zero=>
    refine bW g λ vs2 j g=>gA g λ f h=>?_;rwa[ac (aE j),v j h4];rw[fA j]at rs;rwa[ac (et.jM rs),u Wp r];subst Wp;rwa[kW (S.vL h4 r),e q O H];obtain rfl:=H.u;have f:=gV f;rwa[aW l.pl,n Y];rwa[aW H.pl,n2 l3];have U:B.toArray.size+O.toArray.size<=sizeLine:=by rw[List.length_append,l.len,H.len]at f;exact aU sizeLine_eq (Nat.le_trans f (by decide))
    refine call_meets PySem.F.slot_list_extend (aw _ Y rfl) PySem.F.entry_list_extend (PySem.F.args_list_extend_2 _ _) (AutoSeq1.list_extend_list_list_0 p B.toArray n q O.toArray n2 (extend_door U) (Nat.le_trans (Nat.le_add_right _ _) U)
     (Nat.le_succ_of_le U)) (bN Y l3 ?_)
    refine BQ (n:=if(B.toArray++O.toArray).size==B.toArray.size then n else n+1) (ws:=B++O) L S (lq h) l.foot l.own (Heap.SameBut.update ..) ?_ f (l.rs.append H.rs);rw[Heap.get?_update_self _ Y (by rw[mapSeq_app];rfl),mapSeq_app];simp
   |succ=>exact(jp g).elim
 |dM es=>
  refine gA g λ J g=>bW g λ q j g=>bW g λ k h4 h=>?_;obtain rfl:m=2:=beq_iff_eq.mp J;rw[jJ j]at rs;rwa[cX (et.mH rs),_ _ Wn r r'];subst Wn;rwa[aW (r.gD h4),t Wm];subst Wm;rwa[ac (RV.gS G),p Wl e1];subst Wl;rwa[cA (S.obj _ _ _ h2 e1),ho hl OK];rwa[ac OK,m J f,-OK];refine call_meetsIn PySem.F.slot_dict_get J.typeIs PySem.F.entry_dict_get (PySem.F.args_dict_get_3 _ _ _) (meets_dict_get_default (intKind θ.prog θ.w) (k:=k) p I7 (tC W S ho) _) (aw m J ?_);have f:=f k;generalize y:es.find? (·.1==k)=SH;induction SH with
  |none=>
   rw[y]at f h;generalize hz:m k=mk at f
   cases f
   exact bP L S (d5 h) r'
  |some e=>
   rw[y]at f h;generalize hz:m k=mk at f
   cases f with
   |some r=>exact bP L S (d5 h) r
 |_=>exact(jp g).elim
end
section
variable{θ:Th}{f:Fm}{n k:Nat}{p q:Pos}{x y w:Expr}{x' y' w' e':E}
theorem lX{y:Str}(h:nM y=true):(y==("__debug__" :Str))=false∧(y==("__classdict__" :Str))=false∧(y==("super" :Str))=false:=by unfold nM at h;simp only[Bool.and_eq_true,bne_iff_ne]at h;exact(bN (beq_eq_false_iff_ne.mpr h.1.1) (beq_eq_false_iff_ne.mpr h.1.2) (beq_eq_false_iff_ne.mpr h.2))
theorem fe(h:oB b o=some a):b=true/\o=some a:=by
 induction b with
 |false=>exact aD (h)
 |true=>exact⟨rfl,h⟩
theorem zD(S:ec θ z):dW θ.base z.s.heap:=λ _ _ ⟨o,b,a⟩=>(aw o (S.old _ _ b) a)
theorem ym{y:Str}{i:Nat}{v:V}{l:Env}{z:Z}{K:Value→Shared→Prop}{X:Value→Shared→Prop}(c:Cx θ f n l z)(L:(y==("__classdict__" :Str))=false)(g:cG f.sc y=false)(d:cC f.sc y=some i)(o:l[i]?= some (some v))(h:∀u,RZ θ z v u→K u z.s):
  wpAny (model θ.prog θ.w) f.A (loadName f.env y) K X z.s:=by
 rcases c.st.how y i g d with a|⟨a,q,j⟩
 ·exact ac c.e.ns λ m G B=>ac (B y a i v g d o) λ u J b=>wpAny_loadName_local c.st.kind a G J (h u b)
 ·rwa[aK (c.e.cells y q j),_ t];rwa[ac t,Q r H,-t];rwa[ac (H (by rcases a with a|a<;>(erw[a];decide)) i v g d o),u O b];subst O;rcases a with a|a
  ·exact wpAny_loadName_cell c.st.kind a j r (h u b)
  ·exact wpAny_loadName_free c.st.kind a j r (h u b) L
theorem qq{a:Env}{i:Nat}{v:V}(h:(a[i]?).getD none=some v):a[i]?= some (some v):=by
 generalize e:a[i]?= b;induction b with
 |none=>rw[e]at h;exact aD (h)
 |some o=>rw[e]at h;cases h;rfl
theorem yD{y:Str}(W:Wd θ)(h:pv f.sc y=some e'):TE θ (n+1) f e' (.Name y p):=fun{e z Q E K X} c a l _=>by
 rwa[aK (fe h),H h];rwa[cA (lX H),m Y d3];generalize d:cG f.sc y=SD;induction SD with
 |true=>
  rw[d]at h;rwa[ac (bc h),v b cH];subst cH;rwa[d9 W.top,B G T];rwa[ac (T.glob y v b),u g r];have A:z.s.heap.Ns f.env.globals B:=by exact aU c.st.globals (c.s.ns T.main)
  have j:z.s.heap.Ns f.env.builtins G:=by exact aU c.st.builtins (c.s.ns T.blt)
  have o:K u z.s:=bP (t:=z.s.toks) l c.s a (RV.mono (zD c.s) (List.nil_prefix ..) r);refine Calls.Name_function_global c.st.kind (c.st.kinds y _ (beq_iff_eq.mp d) (by decide)) ?_ m;rcases g with g|⟨O,L⟩
  ·exact Calls.loadGlobal_global A g o
  ·exact Calls.loadGlobal_builtin A O j L o
 |false=>
  rw[d]at h;rwa[ac (bc h),i J U];subst U;generalize b:(e[i]?).getD none=SA;induction SA with
  |none=>have a:(match (e[i]?).getD none with|some v=>Q v z.σ|none=>False):=a;rw[b]at a;exact a.elim
  |some v=>have a:(match (e[i]?).getD none with|some v=>Q v z.σ|none=>False):=a;rw[b]at a;exact wpAny_Name (ym c Y d J (qq b) λ u r=>bP (t:=z.s.toks) l c.s a r) m
theorem Kg(r:TE θ n f x' x)(o:TE θ n f y' y):TE θ (n+1) f (.b l x' y') (.BinOp x l y p):=λ c m s e=>wpAny_BinOp (r c.less m (λ _ _ _ j d h=>o (c.less.go d) j (λ _ _ _ i a g=>D9 i a.sim (h.go a) g (s.after (d.trans a))) (e.after d.wide)) e)
theorem Iz(g:TE θ n f x' x):TE θ (n+1) f (.neg x') (.UnaryOp .USub x p):=λ c e j i=>
 wpAny_UnaryOp (g c.less e (λ _ _ _ d a b=>bW d λ _ h m=>by rwa[aW (b.gD h),_ l];subst l;exact neg_int (bP (j.after a) a.sim (d5 m) (.int _ _))) i)
theorem uy{G:Prop}{Q:V->St->Prop}{v:V}{s:St}(h:kj Q v s)(k:∀b,v=.bool b->Q (.bool b) s->G):G:=by
 induction v using V.casesOn with
 |bool b=>exact k b rfl h
 |_=>exact h.elim
theorem Hh{G:Prop}{Q:V->St->Prop}{v:V}{s:St}(h:Ag Q v s)(k:∀b,v=.bool b->Q (.bool (!b)) s->G):G:=by
 induction v using V.casesOn with
 |bool b=>exact k b rfl h
 |_=>exact h.elim
theorem vM{G:Prop}{Q R:St->Prop}{v:V}{s:St}(h:mc Q R v s)(a:v=.bool true->Q s->G)(c:v=.bool false->R s->G):G:=by
 have h:=lq h
 induction v using V.casesOn with
 |bool b=>induction b with
  |true=>exact a rfl h
  |false=>exact c rfl h
 |_=>exact h.elim
theorem pq{z a:Z}{Q₁ Q₂:St->Prop}{K:Bool->Shared->Prop}{X:Value->Shared->Prop}{v:V}{u:Value}(h:mc Q₁ Q₂ v a.σ)(N:Nx θ eH z a)(r:RZ θ a v u)(b:KB θ z Q₁ Q₂ K):wpAny (model θ.prog θ.w) f.A (truthy u) K X a.s:=
 vM h (λ e q=>by subst e;exact aU (RV.fK r) (wpAny_truthy_bool (b.1 a q N))) λ e q=>by subst e;exact aU (RV.fK r) (wpAny_truthy_bool (b.2 a q N))
theorem Iu(i:TE θ n f x' x):TE θ (n+1) f (.not x') (.UnaryOp .Not x p):=λ c h l j=>
 wpAny_UnaryOp (i c.less h (λ _ _ _ g a d=>Hh g λ b e m=>by
  subst e
  erw[RV.fK d]
  show wpAny _ _ (unaryOp .Not (.bool b)) _ _ _;unfold unaryOp;exact wpAny_bind (wpAny_truthy_bool (wpAny_pure (bP (l.after a) a.sim m (.bool _))))) j)
theorem Ko(o:TE θ n f x' x)(m:TE θ n f y' y):TE θ (n+1) f (.p x' y') (.BoolOp .And [x,y] p):=λ c l g d=>
 wpAny_And2 (o c.less l (λ _ _ _ j a b=>vM j (λ e q=>by
  subst e;exact aU (RV.fK b) (wpAny_truthy_bool (m (c.less.go a) q (λ _ _ _ i s h=>uy i λ _ e r=>by subst e;exact g _ _ _ r (a.trans s) h) (d.after a.wide)))) λ e q=>by
  subst e;exact aU (RV.fK b) (wpAny_truthy_bool (g _ _ _ q a (.bool _)))) d)
theorem LU(o:TE θ n f x' x)(m:TE θ n f y' y):TE θ (n+1) f (.q x' y') (.BoolOp .Or [x,y] p):=λ c l g d=>
 wpAny_Or2 (o c.less l (λ _ _ _ j a b=>vM j (λ e q=>by
  subst e;exact aU (RV.fK b) (wpAny_truthy_bool (g _ _ _ q a (.bool _)))) λ e q=>by
  subst e;exact aU (RV.fK b) (wpAny_truthy_bool (m (c.less.go a) q (λ _ _ _ i s h=>uy i λ _ e r=>by subst e;exact g _ _ _ r (a.trans s) h) (d.after a.wide)))) d)
theorem BM(e:isTrue x f.env (eval x f.env)=(do let v ← eval x f.env;standAt x.pos;holding [v] (truthy v)))(h:TE θ n f x' x):TT θ n f x' x:=λ c d i g=>wpAny_isTrue_value (h c d (λ _ _ _ b j a=>pq b j a i) g) e
theorem KB.at{z a:Z}{Q₁ Q₂:St->Prop}{K:Bool->Shared->Prop}{b:Bool}(h:KB θ z Q₁ Q₂ K)(q:mc Q₁ Q₂ (.bool b) a.σ)(N:Nx θ eH z a):K b a.s:=by
 have q:=lq q
 induction b with
 |true=>exact h.1 a q N
 |false=>exact h.2 a q N
theorem zt{a:Env}{e:E}{Q b:V->St->Prop}{E:Str->St->Prop}{s:St}(h:pw ((TI n).ev a e) Q E s)(k:∀v s,Q v s->b v s):pw ((TI n).ev a e) b E s:=((dL n).1 a e).mono h k λ _ _ h=>h
theorem It(g:TT θ n f x' x):TT θ (n+1) f (.not x') (.UnaryOp .Not x p):=fun{j z Q₁ Q₂ E K X} c d a i=>
 wpAny_isTrue_Not (g (Q₁:=Q₂) (Q₂:=Q₁) c.less (zt d λ v s h=>Hh h λ b e q=>by
  subst e;have q:=lq q;refine pO ?_
  induction b with
  |true=>exact q
  |false=>exact q) ⟨a.2,a.1⟩ i)
theorem zC{b:Env}{e:E}{z a:Z}{Q₁ Q₂:St->Prop}{E:Str->St->Prop}{K:Bool->Shared->Prop}{X:Value->Shared->Prop}(g:TT θ n f e y)(c:Cx θ f n b a)(d:pw ((TI n).ev b e) (kj (mc Q₁ Q₂)) E a.σ)(N:Nx θ eH z a)(j:KB θ z Q₁ Q₂ K)(i:dq θ (Loc f.env) z E X):
  wpAny (model θ.prog θ.w) f.A (isTrue y f.env (eval y f.env)) K X a.s:=
 g c (zt d λ _ _ h=>uy h λ _ e q=>e▸q) (j.after N) (i.after N.wide)
theorem Kn(h:TT θ n f x' x)(g:TT θ n f y' y):TT θ (n+1) f (.p x' y') (.BoolOp .And [x,y] p):=λ c e a d=>isTrue_and (h c.less e ⟨λ i q N=>isTrue_and (zC g (c.less.go N) q N (K:=λ c s=>if c=true then wpAny _ _ (isTrue (.BoolOp .And [] p) _ _) _ _ s else _) ⟨λ b q N=>isTrue_and_nil (a.1 b q N),λ b q N=>a.2 b q N⟩ d),λ i q N=>a.at q N⟩ d)
theorem LS(h:TT θ n f x' x)(g:TT θ n f y' y):TT θ (n+1) f (.q x' y') (.BoolOp .Or [x,y] p):=λ c e a d=>isTrue_or (h c.less e ⟨λ i q N=>a.at q N,λ i q N=>isTrue_or (zC g (c.less.go N) q N (K:=λ c s=>if c=true then _ else wpAny _ _ (isTrue (.BoolOp .Or [] p) _ _) _ _ s) ⟨λ b q N=>a.1 b q N,λ b q N=>isTrue_or_nil (a.2 b q N)⟩ d)⟩ d)
theorem I5(e:TT θ n f x' x)(h:TE θ n f y' y)(g:TE θ n f w' w):TE θ (n+1) f (.ite x' y' w') (.IfExp x y w p):=λ c d b a=>wpAny_IfExp (e c.less d ⟨λ _ q N=>h (c.less.go N) q (b.after N) (a.after N.wide),λ _ q N=>g (c.less.go N) q (b.after N) (a.after N.wide)⟩ a)
theorem ite_tt(e:TT θ n f x' x)(h:TT θ n f y' y)(g:TT θ n f w' w):TT θ (n+1) f (.ite x' y' w') (.IfExp x y w p):=λ c d b a=>isTrue_IfExp (e c.less d ⟨λ _ q N=>h (c.less.go N) q (b.after N) (a.after N.wide),λ _ q N=>g (c.less.go N) q (b.after N) (a.after N.wide)⟩ a)
theorem Cx.units(a:pn θ A n z):A.units+dY<cLine:=by have:=a.units;unfold dY cLine;exact iA (.j (.a W0 (.c 1000)) (.c 9900)) [.i (.a W0 (.m 20 W1)) (.c 8000)] (.l [1,1]) rfl this
theorem lm(h:dD k f.sc x=some x')(a:CmpOp):behindInMarks a x=false:=by
 induction k with
 |zero=>exact aD (h)
 |succ k=>rcases x with ⟨⟩<;> first|rfl|exact aD (h)
theorem J8(W:Wd θ)(o:behindInMarks e y=false)(s:TE θ n f x' x)(r:TE θ n f y' y):TE θ (n+1) f (.c e x' y') (.Compare x [e] [y] p):=λ c m t g=>wpAny_Compare1 (s c.less m (λ _ _ _ l d i=>r (c.less.go d) l (λ _ _ _ j b h=>jC W (Cx.units c.a) j b.sim (i.go b) h (t.after (d.trans b))) (g.after d.wide)) g) o
theorem J7(W:Wd θ)(s:behindInMarks e y=false)(u:TE θ n f x' x)(t:TE θ n f y' y):TT θ (n+1) f (.c e x' y') (.Compare x [e] [y] p):=λ c r v g=>wpAny_isTrue_Compare1 (u c.less r (λ _ _ _ o d j=>t (c.less.go d) o (λ _ _ _ m b i=>jC W (Cx.units c.a) m b.sim (j.go b) i (λ _ _ _ l z h=>pq l (d.trans (b.trans z)) h v)) (g.after d.wide)) g) s
theorem Hr(h:behindInMarks a b=false):lastMarks [c,a] [d,b]=false:=by simpa [lastMarks] using h
theorem GJ{r g:CmpOp}(W:Wd θ)(G:behindInMarks g w=false)(L:TE θ n f x' x)(J:TE θ n f y' y)(H:TE θ n f w' w):TE θ (n+1) f (.ut x' r y' g w') (.Compare x [r,g] [y,w] p):=λ c B o h=>
 Compare_chain (ops:=[]) (rs:=[]) (L c.less B (λ _ _ _ A d t=>chain_link (J (c.less.go d) A (λ _ _ _ z b m=>jC W (Cx.units c.a) z b.sim (t.go b) m (λ _ _ _ v j l=>vM v (λ e q=>by
  subst e
  erw[RV.fK l]
  have N:=d.trans (b.trans j);exact wpAny_truthy_bool (chain_last (H (c.less.go N) q (λ _ _ _ u i s=>jC W (Cx.units c.a) u i.sim ((m.go j).go i) s (o.after (N.trans i))) (h.after N.wide)))) λ e q=>by
  subst e;exact aU (RV.fK l) (wpAny_truthy_bool (o _ _ _ q (d.trans (b.trans j)) (.bool _))))) (h.after d.wide))) h) (Hr G)
theorem GI{r g:CmpOp}(W:Wd θ)(H:behindInMarks g w=false)(O:TE θ n f x' x)(L:TE θ n f y' y)(J:TE θ n f w' w):TT θ (n+1) f (.ut x' r y' g w') (.Compare x [r,g] [y,w] p):=λ c G o h=>
 isTrue_chain (ops:=[]) (rs:=[]) (O c.less G (λ _ _ _ B d t=>test_link (L (c.less.go d) B (λ _ _ _ A b m=>jC W (Cx.units c.a) A b.sim (t.go b) m (λ _ _ _ z j l=>vM z (λ e q=>by
  subst e
  erw[RV.fK l]
  have N:=d.trans (b.trans j);exact wpAny_truthy_bool (test_last (J (c.less.go N) q (λ _ _ _ v i s=>jC W (Cx.units c.a) v i.sim ((m.go j).go i) s (λ _ _ _ u Q rs=>pq u (N.trans (i.trans Q)) rs o)) (h.after N.wide)))) λ e q=>by
  subst e;exact aU (RV.fK l) (wpAny_truthy_bool (o.at q (d.trans (b.trans j)))))) (h.after d.wide))) h) (Hr H)
end
section
variable{θ:Th}{f:Fm}{n k:Nat}{p q:Pos}{x y w:Expr}{x' y' w' e':E}{es:List Expr}{kz:List E}
noncomputable def ew(θ:Th)(n k:Nat)(f:Fm):Prop:=∀ {e e'},dD k f.sc e=some e'->TE θ n f e' e
theorem iy(h:dD k f.sc x=some x'):backTo p (starEach (x::es) f.env)=(false,eval x f.env)::backTo p (starEach es f.env):=by
 induction k using Nat.casesOn with
 |zero=>exact aD (h)
 |succ k=>rcases x with ⟨⟩<;> first|rfl|exact aD (h)
theorem ly(l:ew θ n k f):∀ {es:List Expr} {kz:List E} {i:Env} {z:Z} {Q:List V->St->Prop} {E:Str->St->Prop} {K:List Value->Shared->Prop} {X:Value->Shared->Prop},dS (dD k f.sc) es=some kz->Cx θ f n i z->pw (v8 (TI n) i kz) Q E z.σ->
  Ends θ eH z (j0 θ) Q K->dq θ (Loc f.env) z E X->wpAny (model θ.prog θ.w) f.A (spliced (backTo p (starEach es f.env))) K X z.s
 | [],_,_,z,_,_,_,_,h,c,b,d,_=>by obtain rfl:=an (h);exact Calls.spliced_nil (d _ _ z b (.refl c.s) .nil)
 |e::es,_,_,_,_,_,_,_,h,c,b,d,j=>by rwa[ac (aE h),a m h];rwa[ac (bc h),H B G];subst G;exact aU (iy m) (Calls.spliced_cons (l m c b (λ _ _ _ v g t=>ly l B (c.go g) v (λ _ _ _ u o r=>d _ _ _ u (g.trans o) (.cons (t.go o) r)) (j.after g.wide)) j))
theorem HY(B:ew θ n k f)(h:dS (dD k f.sc) es=some kz):TE θ (n+1) f (.tup kz) (.Tuple es j p):=λ c v A z=>
 wpAny_Tuple (ly B h c.less v (λ a u g d t l=>by
  cases i:hU a with
  |false=>have d:(match hU a with|true=>_|false=>False):=d;rw[i]at d;exact d.elim
  |true=>have d:(match hU a with|true=>_|false=>False):=d;rw[i]at d;have m:=gV i;rw[et.length l]at m;have r:=t.sim.grown (s':={g.s with heap:=g.s.heap.push {cls:=.type "tuple",data:=.seq u.toArray}}) (fun b o e=>Heap.get?_push_of_some _ e) rfl rfl;exact⟨by exact aU sizeLine_eq (Nat.le_trans m (by decide)),A _ _ ⟨g.φ,g.own,g.σ,{g.s with heap:=_}⟩ d (t.trans r) (.tup (IsTup.new _ _) (l.go r))⟩) z)
theorem ID(r:ew θ n k f)(h:dS (dD k f.sc) es=some kz):TE θ (n+1) f (.l kz) (.List es p):=λ c i o m=>
 wpAny_List (ly r h c.less i (λ a t u g e b=>mZ g λ j s=>by have d:=gV j;exact⟨by exact aU sizeLine_eq (fM (et.length b) (Nat.le_trans d (by decide))),tu (o.after e) e.sim s b d⟩) m)
theorem Jd(W:Wd θ)(m:∀o v,subscripted y false o v=operate [o,v] (getItem o v))(t:TE θ n f x' x)(s:TE θ n f y' y):TE θ (n+1) f (.i x' y') (.Subscript x y p):=λ c r u e=>
 Subscript_ (t c.less r (λ _ _ _ l d h=>s (c.less.go d) l (λ _ _ _ j b g=>by obtain ⟨⟨T,id,A,z⟩,a⟩:=vO W j b.sim (h.go b) g (u.after (d.trans b));exact tail_any A z a (m _ _)) (e.after d.wide)) e)
theorem m6{l:List Str}{x:Str}{i:Nat}(h:l.idxOf? x=some i):l[i]?= some x:=by exact ac (List.idxOf?_eq_some_iff.mp h) λ b a _=>aU (bT b) (congrArg some a)
theorem GX{a:Str}{i:Nat}(W:Wd θ)(j:∀whole,attributeBase x a f.env whole=whole)(h:bH.idxOf? a=some i)(l:TE θ n f x' x):TE θ (n+1) f (.t x' i) (.Attribute x a p):=λ c g o m=>Attribute_any_ (l c.less g (λ _ _ _ e b d=>AL W (m6 h) e b.sim d (o.after b)) m) (by rw[arm_eval_Attribute,j])
theorem Gz:TE θ (n+1) f .emptyDict (.Dict [] [] p):=fun{i z Q E K X} c d g _=>by
 rw[eval_Dict_empty];refine wpAny_bind (wpAny_standAt ?_);have a:=Heap.get?_none_of_le (h:=z.s.heap) (Nat.le_refl z.s.heap.objs.size);refine wpAny_newObj_type (T:= "dict") (data:=.dict #[]) (dict:=none) ?_ (Nat.zero_le _);have N:=c.s.push (s':={z.s with heap:=z.s.heap.push {cls:=.type "dict",data:=.dict #[]}}) (o:=.dM []) (fun b o e=>Heap.get?_push_of_some _ e) rfl rfl a (Heap.get?_push_size _ rfl) (.of (by simp))
  λ _=>⟨Heap.DictLe.new _,_,Heap.MapOf.new _,λ _=>.none⟩
 exact g _ _ _ (hZ (E:=E) d) N.1 N.2
theorem pC{z:Z}{A:Around}{j m:Option Expr}{K:Value->Shared->Prop}{X:Value->Shared->Prop}{c b u:Value}{l:Addr}{a:Array Value}{lo d:Option Int}(h:Xo z.s u l a)(g:IsPart c lo)(e:IsPart b d)
  (i:K (.ref (z.s.heap.objs.size+1)) {z.s with heap:=(z.s.heap.push {cls:=.type "slice",data:=.fields #[c,b,.none]}).push {cls:=.type "list",data:=.seq (slicePick a lo d none)}}):
  wpAny (model θ.prog θ.w) A (subscriptTail x (.Slice j m none q) u (.ref z.s.heap.objs.size)) K X {z.s with heap:=z.s.heap.push {cls:=.type "slice",data:=.fields #[c,b,.none]}}:=by
 erw[h.u]
 refine tail_any (ops:=[.ref z.s.heap.objs.size,.ref l]) (h.il.push _).typeIs list_getitem_lookup (wpAny_getItem_list_slice (s:={z.s with heap:=z.s.heap.push {cls:=.type "slice",data:=.fields #[c,b,.none]}}) (h.il.push _) (Heap.IsSliceOf.new ..) g e .none (by simp) ?_ h.le) rfl;show K (.ref (z.s.heap.push _).objs.size) _;rw[Heap.size_push];exact i
theorem E5(r:TE θ n f x' x)(o:TE θ n f y' y):TE θ (n+1) f (.sl x' (some y') none) (.Subscript x (.Slice (some y) none none q) p):=λ c m s e=>
 Subscript_ (r c.less m (λ _ _ _ j d h=>wpAny_Slice (wpAny_evalPart_some (o (c.less.go d) j (λ _ _ _ i b g=>wpAny_evalPart_none (wpAny_evalPart_none (by
  exact cy (By i b.sim (h.go b) g (s.after (d.trans b))) λ l a k v u t=>pC v u .none t))) (e.after d.wide)))) e)
theorem E6(r:TE θ n f x' x)(o:TE θ n f y' y):TE θ (n+1) f (.sl x' none (some y')) (.Subscript x (.Slice none (some y) none q) p):=λ c m s e=>
 Subscript_ (r c.less m (λ _ _ _ j d h=>wpAny_Slice (wpAny_evalPart_none (wpAny_evalPart_some (o (c.less.go d) j (λ _ _ _ i b g=>wpAny_evalPart_none (by
  exact cy (Bz i b.sim (h.go b) g (s.after (d.trans b))) λ l a k v u t=>pC v .none u t)) (e.after d.wide))))) e)
end
section
variable{θ:Th}{f:Fm}{n k:Nat}{sc:List (Str×NameKind)}
theorem tZ(h:cC sc y=some i):(sc.map (·.1))[i]?= some y:=m6 h
theorem tY(h:cC sc y=some i)(a:cC sc z=some i):y=z:=an ((tZ h).symm.trans (tZ a))
noncomputable def HT(θ:Th)(z:Z)(kindOf:Str->Option NameKind)(sc:List (Str×NameKind))(m b:Str->Option Value)(a:Env):Prop:=
 ∀x i,cC sc x=some i->∀v,a[i]?= some (some v)->∃u,(if kindOf x=some .local then m x else b x)=some u/\RZ θ z v u
theorem HT.one{z:Z}{kindOf:Str->Option NameKind}{m g:Str->Option Value}{h:Env}{y:Str}{i:Nat}{v:V}{u:Value}(b:HT θ z kindOf sc m g h)(o:cC sc y=some i)(r:RZ θ z v u):
  HT θ z kindOf sc (if kindOf y=some .local then λ x=>if x=y then some u else m x else m) (if kindOf y=some .local then g else λ x=>if x=y then some u else g x) (h.set i (some v)):=λ x j d l a=>by
 by_cases q:x=y
 ·subst q;obtain rfl:i=j:=an (o.symm.trans d);obtain rfl:v=l:=by
   rw[List.getElem?_set]at a;simp only[if_true]at a
   split at a
   ·obtain rfl:=an (an (a));rfl
   ·exact aD (a)
  refine(aw u ?_ r)
  split<;> exact if_pos rfl
 ·have p:i≠j:=λ e=>q (tY d (e▸o));rw[List.getElem?_set_ne p]at a;rwa[ac (b x j d l a),w t s];refine(aw w ?_ s);refine fM t ?_;by_cases c:kindOf y=some .local
  ·rw[if_pos c,if_pos c,if_neg q]
  ·rw[if_neg c,if_neg c,if_neg q]
theorem HT.params{z:Z}{kindOf:Str->Option NameKind}:∀ {names:List Str} {c:List Nat} {d:List V} {a:List Value} {m cm:Str->Option Value} {ρ:Env},dS (cC sc) names=some c->j0 θ z d a->HT θ z kindOf sc m cm ρ->
  HT θ z kindOf sc (bindL kindOf (names.zip a) m) (bindC kindOf (names.zip a) cm) ((c.zip d).foldl (λ ρ p=>ρ.set p.1 (some p.2)) ρ)
 | [],_,_,_,_,_,_,e,_,b=>by obtain rfl:=an (e);exact b
 |y::names,_,_,_,_,_,_,e,r,b=>by
  rwa[ac (aE e),i h e];rwa[ac (bc e),c g j];subst j
  cases r with
  |nil=>exact b
  |cons r rs=>have:=HT.params (names:=names) g rs (b.one h r);exact this
structure Kx(sc:Scope):Prop where
 co:sc.isCoroutine=false
 gen:sc.isGenerator=false
 kind:sc.kind=.function
 names:∀p,p∈sc.names->p.2=.local∨p.2=.cell∨p.2=.globalImplicit
structure o8(θ:Th)(a:Addr)(g:Fn)(o:Obj)(fd:FuncData)(body:List Stmt)(names:List Str):Prop where
 at_:θ.base.get? a=some o
 data:o.data=.func fd
 cls:o.cls=.type "function"
 code:θ.base.CodeRec fd.code fd.qualname
 stmts:fd.body=.stmts body
 GO:fd.closure=[]
 params:dS (cC fd.scope.names) names=some g.params
 loc:∀y,y∈names->cG fd.scope.names y=false
 nv:g.nv=fd.scope.names.length
 ir:g.body=body.map (nG 60 fd.scope.names)
 sc:Kx fd.scope
 globals:fd.globals=mainGlobals
 builtins:fd.builtins=builtinsNs
end
section
variable{θ:Th}{A:Around}{f:Fm}{n k:Nat}{sc:List (Str×NameKind)}{z:Z}{ρ:Env}
inductive mD(h:Heap):Value->Prop
 |builtin (id:String):mD h (.builtin id)
 |type (T:String):mD h (.type T)
 |func {a:Addr} {o:Obj} {fd:FuncData}:h.get? a=some o->o.data=.func fd->mD h (.ref a)
 |cls {C N:Addr} {mN:Str->Option Value}:ClsAt h C N mN->mD h (.ref C)
theorem kZ{M:Program}{w:World}{s:Shared}{u:Value}{X:Value->Shared->Prop}{l:Pos}{c:List (Bool×Sem Value)}{Q:Value->Shared->Prop}(B:c.any (·.1)=false)
  (h:wpAny (model M w) A (evalArgs u true c []) (λ a e=>a.kw=[]/\mD e.heap u/\wpAny (model M w) A (call u a.pos) Q X e) X s):
  wpAny (model M w) A (callWith l u [] c []) Q X s:=by
 unfold callWith;refine wpAny_bind (wpAny_holding (wpAny_mono h (λ a e y=>wpAny_bind (wpAny_standAt ?_)) λ _ _ x=>x));rwa[cA y,VK A0 i,-y];simp only[B,List.any_nil,Bool.or_false,VK,List.nil_append];have b:∀ {t:Sem Value},wpAny (model M w) A t Q X e->wpAny (model M w) A (t >>= λ r=>holding [r] point >>= λ _=>pure r) Q X e:=
  λ G=>wpAny_bind (wpAny_mono G (λ r aH H=>wpAny_bind (wpAny_holding (wpAny_point (wpAny_pure H)))) λ _ _ x=>x)
 induction A0 with
 |builtin id=>exact wpAny_bind (wpAny_pure (b i))
 |type T=>exact wpAny_bind (wpAny_pure (b i))
 |func J L=>
  refine wpAny_bind (m:=keeperOf _) ?_;unfold keeperOf;refine wpAny_bind (wpAny_load J ?_)
  erw[L]
  refine wpAny_pure ?_
  first
   |refine wpAny_ite ?_
   |skip
  split<;> first
   |exact b i
   |exact b (by unfold callMarked;exact Calls.wpAny_keep i)
 |cls j=>
  obtain ⟨v,g,d,t,os⟩:=e;rwa[DN j.obj,nm q bs sn sub O dd k0 k1 k2 k3 k5 j];have f1:=tc_lookup;have hT:(⟨v,g,d,t,os⟩:Shared).TypeIs (.ref _) "type" :=(aw _ j rfl);refine wpAny_bind (m:=keeperOf _) (wpAny_mono (Q:=λ k o=>k=Keeper.machine/\o=⟨v,g,d,t,os⟩) (E:=X) ?_ (λ k o p=>?_) λ _ _ x=>x)
  ·unfold keeperOf specialOf
   repeat any_goals first|assumption|with_reducible refine wpAny_loadPart_at j ?_|with_reducible refine wpAny_load' j ?_|wp_step
   exact⟨rfl,rfl⟩
  ·rwa[aK p,U Y];try clear p;subst U;subst Y
   exact b i
theorem pT{α d:Type}{f:α->Option d}:∀ {l:List α} {r:List d},dS f l=some r->∀x∈l,∃b,f x=some b
 |_::l,_,h,x,c=>by
  rwa[ac (aE h),a g h];rwa[ac (bc h),i e _];rcases List.mem_cons.mp c with rfl|c
  ·exact⟨a,g⟩
  ·exact pT e x c
theorem jx{α b:Type}{f:α->Option b}:∀ {l:List α} {r:List b},dS f l=some r->r.length=l.length
 | [],r,h=>by obtain rfl:=an (h);rfl
 |_::l,_,h=>by rwa[ac (aE h),a e h];rwa[ac (bc h),g c d];subst d;exact congrArg (· +1) (jx c)
theorem ji:∀ {sc:List (Str×NameKind)} {i:Nat},cC sc y=some i->∃k,sc.lookup y=some k/\(y,k)∈sc
 | [],_,h=>aD (h)
 |(g,e)::r,i,h=>by
  by_cases q:y=g
  ·subst q;exact(aw e List.lookup_cons_self (.head _))
  ·have a:∃j,cC r y=some j:=by unfold cC at h;rw[List.map_cons,List.idxOf?_cons,if_neg (by rw[beq_iff_eq];exact λ z=>q z.symm)]at h;exact ac (Option.map_eq_some_iff.mp h) λ j h _=>⟨j,h⟩
   rwa[aW a,j b,-a];exact ac (ji b) λ k d c=>(aw k (by erw[List.lookup_cons,beq_eq_false_iff_ne.mpr q];exact d) (.tail _ c))
theorem pV:∀ {b:List (Str×Addr)},(∃q,(y,q)∈b)->∃q,b.lookup y=some q
 |(x,a)::r,⟨q,h⟩=>by
  by_cases e:y=x
  ·subst e;exact⟨a,List.lookup_cons_self⟩
  ·erw[List.lookup_cons,beq_eq_false_iff_ne.mpr e]
   rcases List.mem_cons.mp h with h|h
   ·exact absurd (congrArg Prod.fst h) e
   ·exact pV ⟨q,h⟩
theorem gW:∀ (a:List (Str×NameKind)) (k:Nat) (b:List (Str×Addr)),((y,NameKind.cell)∈a∨∃q,(y,q)∈b)->∃q,(cellsFrom k a b).lookup y=some q
 | [],k,b,h=>pV (h.resolve_left (λ z=>bQ (z)))
 |(z,d)::r,k,b,h=>by
  unfold cellsFrom
  split
  ·refine gW r _ _ ?_;rcases h with h|⟨q,h⟩
   ·rcases List.mem_cons.mp h with h|h
    ·cases h;exact .inr ⟨k,.head _⟩
    ·exact .inl h
   ·exact .inr ⟨q,.tail _ h⟩
  ·rename_i c;refine gW r _ _ ?_;rcases h with h|h
   ·rcases List.mem_cons.mp h with h|h
    ·cases h;exact absurd rfl c
    ·exact .inl h
   ·exact .inr h
theorem sG:∀ {l:List (Nat×V)} {ρ:Env},(l.foldl (fun(ρ:Env) p=>ρ.set p.1 (some p.2)) ρ).length=ρ.length
 | [],_=>rfl
 |_::l,_=>(sG (l:=l)).trans List.length_set
theorem o8.kinds(j:o8 θ a g o b body c)(d:cG b.scope.names x=false)(h:cC b.scope.names x=some i):
  b.scope.names.lookup x=some .local∨(b.scope.names.lookup x=some .cell/\(x,NameKind.cell)∈b.scope.names):=by
 rwa[ac (ji h),k l e];unfold cG at d;rw[l]at d ⊢;rcases j.sc.names _ e with q|q|q<;>(have q:=q;subst q)
 ·exact .inl rfl
 ·exact .inr ⟨rfl,e⟩
 ·exact absurd d (by decide)
theorem rI{M:Program}{w:World}{s:Shared}{R:Result->Shared->Prop}{a:Addr}{o:Obj}{b:FuncData}{body:List Stmt}{c:Args}{binds:List (Str×Value)}
  (H:A.depth<recursionLimit) (l:s.heap.get? a=some o) (G:o.data=.func b) (r:s.heap.NoLimit) (J:s.heap.CodeRec b.code b.qualname)
  (B:b.body=.stmts body) (y:BindsTo s b c binds) (t:b.closure=[])
  (u:∀x∈binds,b.scope.names.lookup x.1=some .local∨(b.scope.names.lookup x.1=some .cell/\((cellsFrom (s.heap.objs.size+1) b.scope.names []).lookup x.1).isSome=true))
  (h:∀j,InCallC s (callEnvC b s.heap.objs.size a).locals (bindL (callEnvC b s.heap.objs.size a).kindOf binds λ _=>none) (callEnvC b s.heap.objs.size a).cells
    (bindC (callEnvC b s.heap.objs.size a).kindOf binds λ _=>none) j->
   wpAny (model M w) (A.deeper (callEnvC b s.heap.objs.size a)) (PySem.execs body (callEnvC b s.heap.objs.size a)) (λ f d=>R (.ok (.ret (match f with| .ret v=>v|_=>.none))) d)
    (λ e d=>wpAny (model M w) (A.deeper (callEnvC b s.heap.objs.size a)) (leaving (callEnvC b s.heap.objs.size a) e) (λ _ i=>R (.error e) i) (λ q i=>R (.error q) i) d) j)
  (g:Kx b.scope):codeAny (model M w) A (.call (.ref a) c) R s:=by
 refine codeAny_call_function H l G g.co g.gen B J ?_
 erw[t]
 refine y _ _ _ _ (wpAny_newFunctionEnv_cells g.kind u λ p m d x=>?_);subst m;exact⟨r.keeps x.toInCall.keep,codeAny_func (h d x)⟩
structure A9(f:Fm):Prop where
 fr:∃l,f.A.frames=some (f.env::l)
 at_:f.env.frame=some f.env.locals
structure G5(z:Z)(f:Fm):Prop where
 top:A9 f
 fresh:∀b,Loc f.env b->z.s.heap.get? b=none
structure o7(θ:Th)(A:Around)(n:Nat)(z:Z):Prop where
 handled:A.handled=none
 a:pn θ A n z
 depth:A.depth+1+2 * n<=900
 units:A.units+3+20 * n<=8000
theorem o7.of(b:A.handled=none)(a:pn θ A (n+1) z):o7 θ A n z:=⟨b,a.less,by have:=a.depth;exact Mk this,by have:=a.units;exact iA (.i (.a (.a W0 (.c 3)) (.m 20 W1)) (.c 8000)) [.i (.a W0 (.m 20 (.a W1 (.c 1)))) (.c 8000)] (.l [1,1]) rfl this⟩
theorem DD{g:Fn}{ad:Addr}{o:Obj}{G:FuncData}{body:List Stmt}{j:List Str}{vals:List V}{us:List Value}{args:Args}{R:Result->Shared->Prop}(W:Wd θ)(c:o7 θ A n z)(S:ec θ z)(d:o8 θ ad g o G body j)
  (Wf:BindsTo z.s G args (j.zip us)) (r:j0 θ z vals us) (U:ij g vals=some ρ)
  (h:∀f O,f.env=callEnvC G z.s.heap.objs.size ad->f.sc=G.scope.names->G5 z f->Nx θ eH z ⟨z.φ,z.own,z.σ,O⟩->Cx θ f n ρ ⟨z.φ,z.own,z.σ,O⟩->wpAny (model θ.prog θ.w) f.A (PySem.execs body f.env) (λ f s'=>R (.ok (.ret (match f with| .ret v=>v|_=>.none))) s')
    (λ e s'=>wpAny (model θ.prog θ.w) f.A (leaving f.env e) (λ _ bh=>R (.error e) bh) (λ e' bh=>R (.error e') bh) s') O):
  codeAny (model θ.prog θ.w) A (.call (.ref ad) args) R z.s:=by
 rwa[d9 W.top,mg mb T];have Dd:=d.code.imp λ cc ⟨LV,vs,t,d1,d2,d3⟩=>(gN LV vs t d1 (S.old _ _ d2) d3);have Ga:=c.depth;have Vn:=c.units;refine rI (body:=body) (binds:=j.zip us) (by show A.depth<1000;exact Mj Ga) (S.old _ _ d.at_) d.data (T.vn.keeps S.old) Dd d.stmts Wf d.GO (λ y hy=>?_) (λ O x=>?_) d.sc
 ·have hm:=(List.of_mem_zip hy).1;exact aW (pT d.params _ hm) λ i L=>(d.kinds (d.loc _ hm) L).imp id λ q=>⟨q.1,Option.isSome_iff_exists.mpr (gW _ _ _ (.inl q.2))⟩
 ·obtain ⟨⟨⟨Yx,tk,H⟩,mh,fU,Jx⟩,lN,wU,De⟩:=x;have g1:=S.grown (s':=O) fU (by exact aU H rfl) (by exact aU H rfl);have Q:z.s.heap.get? (callEnvC G z.s.heap.objs.size ad).locals=none:=Heap.get?_none_of_le (Nat.le_refl _);have Y:∀x q,(callEnvC G z.s.heap.objs.size ad).cells.lookup x=some q->z.s.heap.get? q=none:=λ x q e=>Heap.get?_none_of_le (Nat.le_of_lt (De x q (mem_of_lookup e)));have c1:=c.a.imp λ _=>.go g1.go;have NH:ρ=(g.params.zip vals).foldl (λ ρ p=>ρ.set p.1 (some p.2)) (List.replicate g.nv none):=by
   unfold ij at U
   split at U
   ·exact(an U).symm
   ·exact aD (U)
  have B:=HT.params (sc:=G.scope.names) (kindOf:=(callEnvC G z.s.heap.objs.size ad).kindOf) (m:=λ _=>none) (cm:=λ _=>none) d.params (r.go g1) (ρ:=List.replicate g.nv none) λ x i _ v J=>by
   rw[List.getElem?_replicate]at J
   split at J<;> exact nomatch J
  rw[← NH]at B;refine h ⟨A.deeper (callEnvC G z.s.heap.objs.size ad),callEnvC G z.s.heap.objs.size ad,G.scope.names⟩ O rfl rfl ⟨⟨c.a.frames.imp λ _ h=>Around.frames_deeper h.1,rfl⟩,λ b hb=>hb.elim (λ e=>e▸Q) λ OS=>by rwa[ac OS,x _ q,-OS];exact Y x b q⟩ g1 ⟨⟨d.sc.kind,λ _ _ e _=>e,d.globals,d.builtins,λ x i hg L=>?_,(S.fresh Q).2,λ x q _ e=>⟨λ z=>?_,(S.fresh (Y x q e)).2⟩,λ x y q ex ey=>name_of_addr wU (mem_of_lookup ex) (mem_of_lookup ey),?_⟩,
   ⟨by show A.depth+1+2 * n<=900;exact Mi Ga,by show A.units+3+20 * n<=8000;exact Mh Vn,?_,c1.GO⟩,⟨(aw _ mh (λ x hx i v hg L J=>?_)),λ x q e=>⟨(S.fresh (Y x q e)).1,_,lN x q e,λ hn i v hg L J=>?_⟩,?_,(S.fresh Q).1⟩,g1.sim⟩
  ·refine(d.kinds hg L).imp id λ q=>⟨.inl q.1,gW _ _ _ (.inl q.2)⟩
  ·rwa[cA (c.a.GO q z),_ _ dy];rwa[ac dy,oz hz _,-dy];exact aD ((Y x q e).symm.trans hz)
  ·exact c.handled
  ·rwa[ac c1.frames,l f1 f2];refine⟨_::l,Around.frames_deeper f1,⟨?_,_,rfl,?_⟩,f2⟩
   ·show G.scope.kind≠ .module
    erw[d.sc.kind];decide
   ·rwa[cy mh,ol es ep n1 n2 _,-mh];exact(bN ((S.fresh Q).1) ((S.fresh Q).2) ⟨ol,n1,λ vs q=>bZ Data.ctorIdx (n2.symm.trans q) rfl⟩)
  ·rwa[ac (B x i L v J),u H e2];rw[if_pos hx]at H;exact(aw u H e2)
  ·rwa[ac (B x i L v J),u H e2];rw[if_neg hn]at H;exact(aw u H e2)
  ·erw[NH,sG,List.length_replicate,d.nv];rfl
theorem entry{g:Fn}{ad:Addr}{o:Obj}{i:FuncData}{body:List Stmt}{a:List Str}{d:List V}{p:List Value}{b:Args}{Q X:Value->Shared->Prop}(W:Wd θ)(c:o7 θ A n z)(S:ec θ z)(t:o8 θ ad g o i body a)
  (x:BindsTo z.s i b (a.zip p)) (r:j0 θ z d p) (q:ij g d=some ρ)
  (h:∀f m,f.env=callEnvC i z.s.heap.objs.size ad->f.sc=i.scope.names->G5 z f->Nx θ eH z ⟨z.φ,z.own,z.σ,m⟩->Cx θ f n ρ ⟨z.φ,z.own,z.σ,m⟩->wpAny (model θ.prog θ.w) f.A (PySem.execs body f.env) (λ f j=>Q (match f with| .ret v=>v|_=>.none) j)
    (λ e j=>wpAny (model θ.prog θ.w) f.A (leaving f.env e) (λ _ l=>X e l) (λ u l=>X u l) j) m):
  wpAny (model θ.prog θ.w) A (call (.ref ad) b.pos b.kw) Q X z.s:=wpAny_call (DD W c S t x r q h)
end
section
variable{θ:Th}{f:Fm}{n k i:Nat}{ρ:Env}{z z':Z}{a:V}{u:Value}{X:Value->Shared->Prop}{L:Addr->Prop}
theorem uU(c:lH θ f)(h:iD f.sc y=true):f.env.kindOf y=some .local∨(f.sc.lookup y=some .cell/\f.env.kindOf y=some .cell):=by unfold iD at h;rw[Bool.or_eq_true,beq_iff_eq,beq_iff_eq]at h;exact h.imp (λ h=>c.kinds y _ h (by decide)) λ h=>⟨h,c.kinds y _ h (by decide)⟩
theorem ot(h:iD b y=true):cG b y=false:=by unfold iD at h;unfold cG;rw[Bool.or_eq_true,beq_iff_eq,beq_iff_eq]at h;rcases h with h|h<;> refine aU h ?_<;> rfl
abbrev Z.to(z:Z)(s:Shared):Z:=⟨z.φ,z.own,z.σ,s⟩
structure Et(θ:Th)(q:Addr)(o:Obj):Prop where
 cell:∀v,θ.P.cl=some q->o.data≠ .cell v
 word:∀vs q t,o.data=.fields vs->vs[1]? ≠some (.str q t)
 tup:kn o
structure jG(θ:Th)(z:Z)(q:Addr)(o:Obj)(s':Shared):Prop where
 hs:∀b o,b≠q->z.s.heap.get? b=some o->s'.heap.get? b=some o
 own:z.own q=none
 base:θ.base.get? q=none
 old:z.s.heap.get? q=some o
 lo:Et θ q o
 gens:s'.gens=z.s.gens
 os:s'.os=z.s.os
theorem jG.gc(T:jG θ z q o d)(h:z.s.heap.get? b=some c)(n:c≠o):d.heap.get? b=some c:=T.hs b c (λ e=>n (an (h.symm.trans (e▸T.old)))) h
theorem jG.tup(T:jG θ z q o d):dW z.s.heap d.heap:=λ _ _ ⟨j,g,c,n,b⟩=>(cR j (T.gc g λ e=>T.lo.tup (e▸c) _ _ (e▸b)) c ⟨n,b⟩)
theorem jG.sim(S:ec θ z)(T:jG θ z q o g):ec θ (z.to g):=
 S.frame (λ b o l c=>T.hs b o (λ e=>l (e▸T.own)) c) (λ b o c=>T.hs b o (λ e=>dk ((e▸c).symm.trans T.base)) (S.old _ _ c)) T.tup λ b r _ c j=>T.hs b r (λ e=>by
  subst e;obtain rfl:=an (T.old.symm.trans c);rcases j with ⟨p,v,d⟩|⟨s,_,_,d,m⟩
  ·exact T.lo.cell v p d
  ·exact T.lo.word _ _ _ d m) c
theorem Nx.j9(N:Nx θ L z z')(T:jG θ z' q o g)(h:z.s.heap.get? q=none∨(L q/\∃c,g.heap.get? q=some c/\∀j,c.data≠ .fields j)):Nx θ L z (z'.to g):=by
 refine⟨T.sim N.sim,N.go.pre,N.go.ext,N.go.new,λ b o l e d=>T.hs b o (λ z=>?_) (N.go.keep b o l e d),λ b o e d=>?_,λ a i h=>T.tup a i (N.go.tup a i h),T.gens.trans N.go.gens,T.os.trans N.go.os⟩
 ·subst z;exact h.elim (λ h=>aD (h.symm.trans d)) λ h=>l h.1
 ·rwa[ac (N.go.there b o e d),c p m];by_cases z:b=q
  ·subst z;exact h.elim (λ h=>aD (h.symm.trans d)) λ h=>h.2.imp λ _ k=>⟨k.1,λ _=>k.2⟩
  ·exact(aw c (T.hs b c z p) m)
theorem lF.go'(b:dW z.s.heap z'.s.heap)(c:z.φ <+: z'.φ)(h:lF θ f ρ z x o):lF θ f ρ z' x o:=λ i v g e d=>(h i v g e d).imp λ _ r=>⟨r.1,r.2.mono b c⟩
theorem d7.L8(e:d7 θ f ρ z)(h:z.s.heap.get? q=some o)(g:∀b c,o.data≠ .dict b c):f.env.locals≠q:=λ w=>by rwa[ac e.ns,_ d _];rwa[cy d,m b c l j _,-d];obtain rfl:=an (h.symm.trans (w▸l));exact g _ _ j
theorem d7.j9(e:d7 θ f ρ z)(T:jG θ z q o l)(t:f.env.locals≠q)(w:∀v,o.data≠ .cell v):d7 θ f ρ (z.to l):=by
 rwa[ac e.ns,m j G];rwa[cy j,p Q U A y r,-j];refine⟨(aw m (gN p Q U (T.hs _ _ t A) y r) (λ x B=>(G x B).go' T.tup (List.prefix_refl _))),λ x c H=>?_,e.len,e.pU⟩;rwa[aK (e.cells x c H),O d];rwa[ac d,v b J];try clear d;rwa[ac b,s Y g,-b]
 exact⟨O,v,(aw s (T.gc Y λ e=>w _ (e▸g)) g),λ k=>(J k).go' T.tup (List.prefix_refl _)⟩
structure Wr(f:Fm)(L:Addr->Prop):Prop where
 loc:L f.env.locals
 cell:∀y c,f.sc.lookup y=some .cell->f.env.cells.lookup y=some c->L c
theorem lH.wr(c:lH θ f):Wr f (Loc f.env):=⟨.inl rfl,λ y _ d b=>.inr (aw y (c.kinds y _ d (by decide)) b)⟩
theorem Cx.at(c:Cx θ f n ρ z)(g:Nx θ L z z')(e:d7 θ f b z'):Cx θ f n b z':=⟨c.st,c.a.imp λ _=>.go g.go,e,g.sim⟩
theorem lF.set(g:Nx θ L z z')(l:cC f.sc y=some i)(d:x≠y)(h:lF θ f ρ z x o):lF θ f (ρ.set i (some a)) z' x o:=λ j v m c b=>by rw[List.getElem?_set_ne λ e:i=j=>d (tY c (e▸l))]at b;exact(h j v m c b).imp λ _ r=>⟨r.1,r.2.go g⟩
theorem lF.self(g:Nx θ L z z')(c:cC f.sc y=some i)(r:RZ θ z a u):lF θ f (ρ.set i (some a)) z' y (some u):=λ j v _ d b=>by
 obtain rfl:=an (c.symm.trans d);rw[List.getElem?_set]at b;rw[if_pos rfl]at b
 split at b
 ·obtain rfl:=an (an (b));exact(aw u rfl (r.go g))
 ·exact aD (b)
theorem nH(wr:Wr f L)(c:Cx θ f n ρ z)(hs:iD f.sc y=true)(g:cC f.sc y=some i)(r:RZ θ z a u)
  (h:∀U,Nx θ L z (z.to U)->d7 θ f (ρ.set i (some a)) (z.to U)->Q () U):wpAny (model θ.prog θ.w) f.A (storeName f.env y u) Q X z.s:=by
 rwa[ac c.e.ns,m mh hm];rwa[cy (id mh),ol es ep n1 G _];have HI:∀ {q v},z.s.heap.IsCell q v->q≠f.env.locals:=fun⟨oc,c1,O⟩ e=>by subst e;obtain rfl:=an (n1.symm.trans c1);exact bZ Data.ctorIdx (G.symm.trans O) rfl
 rcases uU c.st hs with p|⟨KR,p⟩
 ·refine wpAny_storeName_local p mh (λ h' zg l=>?_) (by exact aU c.st.kind rfl);rwa[cy (id zg),Y kz Qg k1 k2 _];have N:Nx θ L z (z.to {z.s with heap:=h',toks:=z.s.toks+1}):=Nx.j9 (.refl c.s) ⟨λ b o hb j=>(l.2 b hb).trans j,c.e.pU,c.st.yG,n1,⟨λ _ _ q=>(bZ Data.ctorIdx (G.symm.trans q) rfl),λ _ _ _ q=>(bZ Data.ctorIdx (G.symm.trans q) rfl),λ _ _ _ q=>(bZ Data.ctorIdx (G.symm.trans q) rfl)⟩,rfl,rfl⟩ (.inr ⟨wr.loc,Y,k1,λ _ q=>bZ Data.ctorIdx (k2.symm.trans q) rfl⟩);refine h _ N ⟨(aw _ zg (λ x d=>?_)),λ x q B=>?_,by exact aU List.length_set c.e.len,c.e.pU⟩
  ·by_cases e:x=y
   ·subst e;exact aU (if_pos rfl) (.self N g r)
   ·exact aU (if_neg e) ((hm x d).set N g e)
  ·rwa[aK (c.e.cells x q B),j eK];rwa[ac eK,v H h3,-eK];exact⟨j,v,H.sameBut l (HI H),λ d=>(h3 d).set N g λ e=>d (e▸p)⟩
 ·rwa[aK ((c.st.how y i (ot hs) g).resolve_left λ e=>uD NameKind.ctorIdx (p.symm.trans e) rfl),_ fO];rwa[aW fO,J t,-fO];rwa[aK (c.e.cells y J t),h5 gU];rwa[ac gU,uO h6 h7,-gU];rwa[aK (c.st.zA y J KR t),b1 b2];rwa[ac (id h6),oc c1 O];rwa[wpAny_storeName_cell c.st.kind p t h6,h' A1 l];rwa[ac (id A1),oc' k1 k2];have N:Nx θ L z (z.to {z.s with heap:=h',toks:=z.s.toks}):=Nx.j9 (.refl c.s) ⟨λ b o hb j=>(l.2 b hb).trans j,h5,b2,c1,⟨λ _ q _=>b1 q,λ _ _ _ q=>(bZ Data.ctorIdx (O.symm.trans q) rfl),λ _ _ _ q=>(bZ Data.ctorIdx (O.symm.trans q) rfl)⟩,rfl,rfl⟩ (.inr ⟨wr.cell y J KR t,oc',k1,λ _ q=>bZ Data.ctorIdx (k2.symm.trans q) rfl⟩);refine h _ N ⟨(aw m (mh.sameBut l λ e=>HI h6 e.symm) (λ x d=>(hm x d).set N g λ e=>uD NameKind.ctorIdx ((e▸d).symm.trans p) rfl)),λ x q B=>?_,by exact aU List.length_set c.e.len,c.e.pU⟩;by_cases e:x=y
  ·subst e;obtain rfl:=an (t.symm.trans B);exact⟨h5,_,A1,λ _=>.self N g r⟩
  ·rwa[aK (c.e.cells x q B),j ip];rwa[ac ip,v H h3,-ip];exact⟨j,v,H.sameBut l λ q'=>e (c.st.apart x y J (q'▸B) t),λ d=>(h3 d).set N g e⟩
structure iw(base h h':Heap):Prop where
 keep:∀b o,h.get? b=some o->(∀vs,o.data≠ .fields vs)->∃sl,h'.get? b=some {o with slots:=sl}
 there:∀b o,h.get? b=some o->∃o',h'.get? b=some o'/\((∀vs,o.data≠ .fields vs)->∀vs,o'.data≠ .fields vs)
 old:∀b o,base.get? b=some o->h.get? b=some o->h'.get? b=some o
variable{base h h' Gc:Heap}
theorem iw.trans(x:iw base h h')(y:iw base h' Gc):iw base h Gc where
 keep b o e n:=(x.keep b o e n).elim λ d c=>y.keep b {o with slots:=d} c n
 there b o e:=(x.there b o e).elim λ g q=>(y.there b g q.1).imp λ _ r=>⟨r.1,λ n=>r.2 (q.2 n)⟩
 old b o c j:=y.old b o c (x.old b o c j)
theorem iw.refl:iw base h h:=⟨λ _ o e _=>⟨o.slots,e⟩,λ _ o e=>(aw o e id),λ _ _ _ e=>e⟩
theorem iw.tup(x:iw base h h'):dW h h':=λ a b ⟨o,g,d,n,c⟩=>(x.keep a o g λ j q=>bZ Data.ctorIdx (c.symm.trans q) rfl).elim λ _ e=>(cR _ e d ⟨n,c⟩)
theorem oa.upd(S:oa θ z)(x:iw θ.base z.s.heap s'.heap):oa θ ⟨z.φ,z.own,z.σ,s'⟩ where
 len:=S.len
 obj i c a e f:=by
  rwa[aK (S.obj i c a e f),v d];rwa[ac d,m l r];try clear d;rwa[bR l,o t p j];try clear l;rwa[aW j,n g,-j]
  exact aW (x.keep a o t (λ c q=>bZ Data.ctorIdx (g.symm.trans q) rfl)) λ y e=>⟨v,m,(cR _ e p ⟨n,g⟩),r.mono x.tup (List.prefix_refl _)⟩
 old b o e:=x.old b o e (S.old b o e)
 lo:=S.lo
 there b i e:=(S.there b i e).elim λ _ w=>(x.there b _ w).imp λ _ q=>q.1
theorem iw.go(x:iw base z.s.heap c.heap)(d:c.gens=z.s.gens)(j:c.os=z.s.os):uK L z ⟨z.φ,z.own,z.σ,c⟩:=
 ⟨List.prefix_refl _,λ _ _ e=>e,λ b i e g=>(aD (e.symm.trans g)),λ b o _ _=>x.keep b o,λ b o _=>x.there b o,d,j⟩
theorem uK.stays(x:uK L z z')(c:z.s.heap.get? b=some o)(e:z.own b=none):z'.own b=none:=by
 generalize q:z'.own b=d;induction d with
 |none=>rfl
 |some i=>exact dk (c.symm.trans (x.new b i e q))
theorem uK.trans(x:uK L z z')(y:uK eH z' j):uK L z j where
 pre:=x.pre.trans y.pre
 ext b i e:=y.ext b i (x.ext b i e)
 new b i e p:=by
  generalize d:z.s.heap.get? b=t;induction t with
  |none=>rfl
  |some o=>exact(x.there b o e d).elim λ c h=>dk (h.1.symm.trans (y.new b i (x.stays d e) p))
 keep b o l e h n:=(x.keep b o l e h n).elim λ g m=>y.keep b {o with slots:=g} id (x.stays h e) m n
 there b o e h:=(x.there b o e h).elim λ c q=>(y.there b c (x.stays h e) q.1).imp λ _ r=>⟨r.1,λ n=>r.2 (q.2 n)⟩
 gens:=y.gens.trans x.gens
 os:=y.os.trans x.os
end
noncomputable def Ew(θ:Th)(z:Z)(a:Addr)(wd:Str):Prop:=∃d b e j,AQ θ z a wd d b e j/\∃T g c y,QZ θ z a d b T g c y
structure Rec(θ:Th)(z:Z)(a:Addr)(wd:Str)(s':Shared):Prop where
 upd:iw θ.base z.s.heap s'.heap
 gens:s'.gens=z.s.gens
 os:s'.os=z.s.os
 exc:Ew θ (z.to s') a wd
section
variable{θ:Th}{f:Fm}{n k i:Nat}{ρ:Env}{z z':Z}{A:Around}{X:Value->Shared->Prop}{L:Addr->Prop}{base h h' Gc:Heap}{env:PySem.Env}{a d:Addr}{wd:Str}{s':Shared}{mR:List PySem.Env}{l:List PySem.Env}
theorem lG.Pu:∀ {l:List PySem.Env},lG θ z l->z.s.heap.FunFrames θ.base l
 | [],_=>trivial
 |_::_,h=>aK h.1 λ a q=>aW q λ L q=>cA q λ b _ q=>aK q λ d q=>ac q λ o e f=>bN a (gj L o b d e f) (Pu h.2)
theorem fE.upd(x:iw θ.base z.s.heap s'.heap)(s:fE θ z q):fE θ (z.to s') q:=by rwa[cA s,j g b];try clear s;rwa[ac b,_ e c,-b];exact(bN j g ((x.there q _ e).imp λ _ r=>⟨r.1,r.2 c⟩))
theorem nE{T:Addr}{o:Obj}{j:Array Value}{k:Nat}{y:Value}(m:h.get? T=some o)(p:o.data=.fields j)(r:base.get? T=none):iw base h (h.update T (Obj.mapFields (·.setIfInBounds k y))):=by
 have s:∀ {b},b≠T->(h.update T (Obj.mapFields (·.setIfInBounds k y))).get? b=h.get? b:=λ r=>Heap.get?_update_other _ _ (Ne.symm r);have t:=Obj.data_mapFields p (·.setIfInBounds k y);have c:=Heap.get?_update_self (Obj.mapFields (·.setIfInBounds k y)) m (Obj.isFreed_of_fields t);refine⟨λ b g e n=>⟨g.slots,(s λ q=>?_).trans e⟩,λ b g e=>?_,λ b g v u=>(s λ q=>dk ((q▸v).symm.trans r)).trans u⟩
 ·subst q;obtain rfl:=an (m.symm.trans e);exact n j p
 ·by_cases q:b=T
  ·subst q;obtain rfl:=an (m.symm.trans e);exact(aw _ c (λ n=>absurd p (n j)))
  ·exact(aw g ((s q).trans e) id)
theorem Bg(o:Obj):iw base h (h.push o):=⟨λ _ b e _=>⟨b.slots,Heap.get?_push_of_some _ e⟩,λ _ b e=>(aw b (Heap.get?_push_of_some _ e) id),λ _ _ _ e=>Heap.get?_push_of_some _ e⟩
theorem zK{l:List Addr}(x:Heap.SlotsOnly l h h')(g:∀b∈l,base.get? b=none):iw base h h':=
 ⟨λ b o e _=>x.2.2 b o e,λ b o e=>(x.2.2 b o e).elim λ m c=>(aw _ c id),λ b o c j=>(x.2.1 b λ z=>aD ((g b z).symm.trans c)).trans j⟩
theorem Ew.at_(x:Ew θ z a wd):wJ θ z a wd:=x.imp λ _ x=>x.imp λ _ x=>x.imp λ _ x=>x.imp λ _ x=>⟨x.1,.inr x.2⟩
theorem yA(x:iw base h h')(b:h.Ns1 d g):h'.Ns1 d g:=by rwa[cy b,o j m e c r,-b];exact aW (x.keep d o e (λ s q=>bZ Data.ctorIdx (c.symm.trans q) rfl)) λ t p=>(gN _ j m p c r)
theorem AQ.upd(x:AQ θ z a wd d c b g)(u:iw θ.base z.s.heap s'.heap)(e:s'.heap.get? a=some b):AQ θ (z.to s') a wd d c b g:=⟨e,x.cls,x.dict,x.ne,yA u x.ns,x.word,x.data,x.own,x.base,x.jd⟩
theorem vo(S:oa θ z)(e:z.s.heap.get? b=none):z.own b=none/\θ.base.get? b=none:=by
 constructor
 ·generalize q:z.own b=c;induction c with
  |none=>rfl
  |some i=>exact(S.there b i q).elim λ o h=>aD (e.symm.trans h)
 ·generalize q:θ.base.get? b=g;induction g with
  |none=>rfl
  |some o=>exact aD (e.symm.trans (S.old b o q))
theorem sI{v:Value}{hn:Bool}{L:Addr}{p:Array Value}{r:Obj}{mA:Str->Option Value}{Q:Unit->Shared->Prop}(oJ:A.frames=some (env::mR))(hl:lG θ z (env::mR))(hf:env.frame=some L)(S:oa θ z)
  (x:AQ θ z a wd d p r mA) (Y:1<p.size) (h:∀s',Rec θ z a wd s'->Q () s'):
  wpAny (model θ.prog θ.w) A (do setField (.ref a) 1 (← EntryCells.newEntry v (← frameOf env) .none (rawInt L) .none (← entryPlaceOf L hn))) Q X z.s:=by
 have G:=hl.Pu;have V3:a∉ (env::mR).filterMap (·.frame):=λ u=>by rwa[aK (G.mem u),_ bw];rwa[ac bw,o ho t,-bw];obtain rfl:=an (x.at_.symm.trans ho);exact t p x.data
 refine wpAny_bind (wpAny_frameOf_fun oJ G hf λ g Hz=>wpAny_bind (wpAny_entryPlaceOf λ m KS=>?_));unfold EntryCells.newEntry newFields;refine wpAny_bind (wpAny_newObj_type ?_ (KS.sizeOk5 _ _ _ _ _));have U:=zK Hz λ b u=>(G.mem u).1;have J:g.get? a=some r:=(Hz.2.1 a V3).trans x.at_;obtain ⟨j,hT⟩:∃j:Obj,j={cls:=.type "traceback",dict:=none,data:=.fields ([v,.ref L,.none,rawInt L,.none]++(if m.isEmpty then List.replicate 6 Value.none else m)).toArray}:=⟨_,rfl⟩;refine fM hT ?_;have YH:j.data=.fields ([v,.ref L,.none,rawInt L,.none]++(if m.isEmpty then List.replicate 6 Value.none else m)).toArray:=by exact aU hT rfl
 have H:=Heap.get?_push_of_some j J;have YG:=Nat.ne_of_gt (Heap.lt_size J);refine wpAny_setField H x.data Y ?_;have O:=(U.trans (Bg j)).trans (nE (k:=1) (y:=.ref g.objs.size) H x.data x.base.1);have HB:=Obj.data_mapFields x.data (·.setIfInBounds 1 (Value.ref g.objs.size));have B:z.s.heap.get? g.objs.size=none:=by
  generalize q:z.s.heap.get? g.objs.size=Sv;induction Sv with
  |none=>rfl
  |some o=>exact(U.there _ o q).elim λ o' e=>aD ((Heap.get?_none_of_le (Nat.le_refl _)).symm.trans e.1)
 refine h _ ⟨O,rfl,rfl,d,_,_,mA,⟨Heap.get?_update_self (Obj.mapFields (·.setIfInBounds 1 (Value.ref g.objs.size))) H (Obj.isFreed_of_fields HB),?_,?_,x.ne,yA O x.ns,x.word,HB,x.own,x.base,x.jd⟩,
  g.objs.size,j,_,rawInt L,⟨?_,⟨YG,λ e=>?_⟩,(vo S B).1,(vo S B).2,(Heap.get?_update_other (g.push j) (Obj.mapFields (·.setIfInBounds 1 (Value.ref g.objs.size))) (Ne.symm YG)).trans (Heap.get?_push_size g (Obj.isFreed_of_fields YH)),YH,rfl⟩⟩
 ·rw[Obj.cls_mapFields];exact x.cls
 ·refine fM x.dict ?_;obtain ⟨c,dd,dt,sl⟩:=r;rcases dt with ⟨⟩<;> rfl
 ·erw[Array.getElem?_setIfInBounds,if_pos rfl,if_pos Y];rfl
 ·exact iK x.ns λ od _ _ g1 _=>dk ((e▸g1).symm.trans B)
theorem pQ{L:Addr}{Q:Unit->Shared->Prop}(c:A.frames=some (env::mR))(e:lG θ z (env::mR))(b:env.frame=some L)(S:oa θ z)(x:wJ θ z a wd)
  (h:∀s',Rec θ z a wd s'->Q () s'):wpAny (model θ.prog θ.w) A (noteFrame (.ref a) env) Q X z.s:=by
 obtain ⟨d,g,m,p,x,r⟩:=x;unfold noteFrame
 erw[b]
 rcases r with r|⟨T,o,j,y,r⟩
 ·refine wpAny_bind (wpAny_field x.at_ x.data r ?_);exact aU (if_neg (by decide)) (sI c e b S x (Array.getElem?_eq_some_iff.mp r).1 h)
 ·refine wpAny_bind (wpAny_field x.at_ x.data r.rm ?_)
  erw[if_pos (show(Value.ref T !=Value.none)=true from by simp)]
  refine wpAny_bind (wpAny_field r.at_ r.data r.flag ?_);by_cases q:(y==rawInt L)=true
  ·exact aU (if_pos q) (wpAny_pure (h z.s ⟨.refl,rfl,rfl,d,g,m,p,x,T,o,j,y,r⟩))
  ·erw[if_neg q]
   have u:=nE (k:=3) (y:=Value.none) r.at_ r.data r.base;refine wpAny_bind (wpAny_setField r.at_ r.data (Array.getElem?_eq_some_iff.mp r.flag).1 ?_);have v:=(Heap.get?_update_other z.s.heap (Obj.mapFields (·.setIfInBounds 3 Value.none)) r.ne.1).trans x.at_;exact sI (z:=z.to {z.s with heap:=z.s.heap.update T (Obj.mapFields (·.setIfInBounds 3 Value.none))}) c (e.imp λ _=>.upd u) b (S.upd (s':={z.s with heap:=_}) u)
    (x.upd u v) (Array.getElem?_eq_some_iff.mp r.rm).1 λ s' t=>h s' ⟨u.trans t.upd,t.gens,t.os,t.exc⟩
theorem jS(x:Ew θ z a wd)(h:∀s',Rec θ z a wd s'->Q () s'):wpAny (model θ.prog θ.w) A (setFlight (.ref a) m) Q X z.s:=by
 obtain ⟨d,c,e,g,x,T,p,o,y,r⟩:=x;unfold setFlight;refine wpAny_bind (wpAny_field x.at_ x.data r.rm ?_)
 erw[if_pos (show(Value.ref T !=Value.none)=true from by simp)]
 obtain ⟨v,j⟩:∃v,v=(m.elim Value.none λ f=>rawInt f):=⟨_,rfl⟩;refine fM j ?_;have u:=nE (k:=3) (y:=v) r.at_ r.data r.base;have lt:=(Array.getElem?_eq_some_iff.mp r.flag).1;have b:=Obj.data_mapFields r.data (·.setIfInBounds 3 v);exact wpAny_setField r.at_ r.data lt (h _ ⟨u,rfl,rfl,d,c,e,g,x.upd (s':={z.s with heap:=_}) u ((Heap.get?_update_other z.s.heap (Obj.mapFields (·.setIfInBounds 3 v)) r.ne.1).trans x.at_),T,_,_,v,
  ⟨r.rm,r.ne,r.own,r.base,Heap.get?_update_self _ r.at_ (Obj.isFreed_of_fields b),b,by erw[Array.getElem?_setIfInBounds,if_pos rfl,if_pos lt];rfl⟩⟩)
theorem Rec.trans(x:Rec θ z a wd s')(y:Rec θ (z.to s') a wd b):Rec θ z a wd b:=⟨x.upd.trans y.upd,y.gens.trans x.gens,y.os.trans x.os,y.exc⟩
theorem Aa{L:Addr}{Q:Unit->Shared->Prop}(c:A.frames=some (env::mR))(e:lG θ z (env::mR))(g:env.frame=some L)(S:oa θ z)(x:wJ θ z a wd)
  (h:∀s',Rec θ z a wd s'->Q () s'):wpAny (model θ.prog θ.w) A (leaving env (.ref a)) Q X z.s:=by
 unfold leaving;exact wpAny_bind (pQ c e g S x λ s' t=>jS (z:=z.to s') t.exc λ j b=>h j (t.trans b))
theorem BO{L:Addr}{E:Value->Shared->Prop}(e:A.frames=some (env::mR))(g:lG θ z (env::mR))(j:env.frame=some L)(S:oa θ z)(x:wJ θ z a wd)
  (h:∀s',Rec θ z a wd s'->E (.ref a) s'):notedBy (model θ.prog θ.w) A env (cameBackBy (model θ.prog θ.w) A env E) (.ref a) z.s:=by
 unfold notedBy;rwa[pQ e g j S x,s' t];unfold cameBackBy;rwa[nX (id t.exc),d o q v x b];rwa[Gu b,T u p y r,-b];refine wpAny_bind (wpAny_field x.at_ x.data r.rm ?_);exact aU (if_neg (by simp)) (jS (z:=z.to s') t.exc λ m c=>h m (t.trans c))
end
inductive HS(θ:Th)(z:Z):Flow->PySem.Flow->Prop
 |next:HS θ z .next .next
 |cont:HS θ z .cont .cont
 |ret {v:V} {u:Value}:RZ θ z v u->HS θ z (.ret v) (.ret u)
theorem HS.inv{θ:Th}{z:Z}{f:Flow}{F:PySem.Flow}(r:HS θ z f F):Flow.casesOn (motive:=λ _=>Prop) f True True (λ v=>∃u,F=.ret u/\RZ θ z v u):=by
 induction r using HS.casesOn with
 |ret h=>exact⟨_,rfl,h⟩
 |_=>trivial
noncomputable def AR(θ:Th)(f:Fm)(z:Z)(Q:Flow×Env->St->Prop)(K:PySem.Flow->Shared->Prop):Prop:=∀b dH z' F,Q (b,dH) z'.σ->Nx θ (Loc f.env) z z'->d7 θ f dH z'->HS θ z' b F->K F z'.s
noncomputable def nk(θ:Th)(n:Nat)(f:Fm)(b:S)(st:Stmt):Prop:=∀ {ρ z Q E K X},Cx θ f n ρ z->pw ((TI n).ex ρ b) Q E z.σ->AR θ f z Q K->dq θ (Loc f.env) z E X->wpAny (model θ.prog θ.w) f.A (exec st f.env) K X z.s
section
variable{θ:Th}{f:Fm}{n k i:Nat}{ρ dH:Env}{z z':Z}{a:V}{u:Value}{X:Value->Shared->Prop}{L:Addr->Prop}{Q:Flow×Env->St->Prop}{K:PySem.Flow->Shared->Prop}{E:Str->St->Prop}{e' o' i':Mine.E}{p pos:Pos}
theorem AR.after(h:AR θ f z Q K)(g:Nx θ (Loc f.env) z z'):AR θ f z' Q K:=λ b dH c F q N=>h b dH c F q (g.trans N)
theorem iC(j:∀st,nk θ n f (nG k f.sc st) st):∀ (b:List Stmt) {ρ z Q E K X},Cx θ f n ρ z->pw (execs (TI n) (b.map (nG k f.sc)) ρ) Q E z.σ->AR θ f z Q K->dq θ (Loc f.env) z E X->wpAny (model θ.prog θ.w) f.A (PySem.execs b f.env) K X z.s
 | [],ρ,z,_,_,_,_,c,g,d,_=>wpAny_pure (d .next ρ z .next g (.refl c.s) c.e .next)
 |st::b,_,_,_,_,K,X,c,g,d,h=>by
  show wpAny (model θ.prog θ.w) f.A (do match ← exec st f.env with| .next=>PySem.execs b f.env|f=>pure f) K X _;refine wpAny_bind (j st c g (λ m l o F q N e r=>?_) h)
  induction r with
  |next=>exact iC j b (c.at N e) q (d.after N) (h.after N)
  |cont=>exact wpAny_pure (d _ _ _ _ q N e .cont)
  |ret r=>exact wpAny_pure (d _ _ _ _ q N e (.ret r))
theorem lA(h:n7 t=some y):∃p,t=.Name y p:=by rcases t with ⟨⟩<;> first|obtain rfl:=an (h);exact⟨_,rfl⟩|exact aD (h)
theorem wy(h:jF t=some b):∃q p,t=.Tuple b q p:=by rcases t with ⟨⟩<;> first|obtain rfl:=an (h);exact(im _ _ rfl)|exact aD (h)
theorem wY(h:KJ b t=some i):∃y p,t=.Name y p/\iD b y=true/\cC b y=some i:=by rwa[ac (aE h),y e h];rwa[aW (lA e),p g];subst g;exact aK (fe h) λ d c=>(c9 y p rfl d c)
noncomputable def XA(θ:Th)(f:Fm)(L:Addr->Prop)(z:Z)(Q:Env->St->Prop)(K:Unit->Shared->Prop):Prop:=∀dH b,Q dH z.σ->Nx θ L z (z.to b)->d7 θ f dH (z.to b)->K () b
theorem oR{t:Expr}{K:Unit->Shared->Prop}(d:Wr f L)(c:Cx θ f n ρ z)(e:KJ f.sc t=some i)(r:RZ θ z a u)(h:∀b,Nx θ L z (z.to b)->d7 θ f (ρ.set i (some a)) (z.to b)->K () b):wpAny (model θ.prog θ.w) f.A (assign t f.env u) K X z.s:=by rwa[cX (wY e),y p l j g];subst l;show wpAny (model θ.prog θ.w) f.A (do standAt p;bindName f.env y u) _ X z.s;exact wpAny_bind (wpAny_standAt (wpAny_bindName (nH d c j g r h)))
theorem jE:∀ {b:List Expr} {c:List Nat},dS (KJ r) b=some c->(assignEach b env).map (·.2)=b.map (λ t=>assign t env)/\(assignEach b env).findIdx? (·.1)=none/\(assignEach b env).length=b.length
 | [],_,_=>(bN rfl rfl rfl)
 |t::b,c,h=>by rwa[ac (aE h),i g h];rwa[ac (bc h),c d q];subst q;rwa[cO (wY g),y p o _];subst o;rwa[cA (jE (env:=env) d),m l j];have e:assignEach (.Name y p::b) env=(false,assign (.Name y p) env)::assignEach b env:=rfl;exact aU e (bN (congrArg (_:: ·) m) (by erw[List.findIdx?_cons];simp [l]) (congrArg (· +1) j))
theorem oF{K:Unit->Shared->Prop}(o:Wr f L):∀ {l:List Expr} {g:List Nat} {b:List V} {q:List Value} {ρ:Env} {s:Shared},dS (KJ f.sc) l=some g->g.length=b.length->j0 θ (z.to s) b q->Cx θ f n ρ (z.to s)->
  (∀d,Nx θ L (z.to s) (z.to d)->d7 θ f (yx g b ρ) (z.to d)->K () d)->wpAny (model θ.prog θ.w) f.A (assignInOrder (l.map λ t=>assign t f.env) q) K X s
 | [],_,b,_,_,s,h,j,r,c,m=>by
  obtain rfl:=an (h)
  induction b with
  |cons=>exact nomatch j
  |nil=>cases r;exact wpAny_pure (m s (.refl c.s) c.e)
 |t::l,_,_,_,_,s,h,j,r,c,m=>by
  rwa[ac (aE h),i x h];rwa[ac (bc h),g v y];subst y
  cases r with
  |nil=>exact nomatch j
  |cons r rs=>show wpAny _ _ (assignInOrder (_::_) _) _ _ _;refine wpAny_bind (wpAny_holding (oR (z:=z.to s) o c x r λ B N e=>?_));exact oF o (s:=B) v (Nat.succ.inj j) (j0.go rs N) (c.at N e) λ d G e'=>m d (N.trans G) e'
theorem fk{t:Expr}{y:T}{Q:Env->St->Prop}{K:Unit->Shared->Prop}(x:Wr f L)(c:Cx θ f n ρ z)(d:rj f.sc t=some y)(r:RZ θ z a u)(j:wp (fL y a ρ) Q E z.σ)(B:XA θ f L z Q K):wpAny (model θ.prog θ.w) f.A (assign t f.env u) K X z.s:=by
 unfold rj at d;generalize h:jF t=Su;induction Su with
 |some ts=>rw[h]at d;rwa[ac (bc d),is g fO];subst fO;rwa[d9 (wy h),_ _ Y];subst Y;refine bW j λ vs O j=>gA j λ l cT=>?_;have l:=of_decide_eq_true l;rwa[cX (r.EO O),q ws G d rs];subst G;rwa[cA (jE (env:=f.env) g),e1 e2 e3];rwa[wpAny_assign_Tuple c.st.handled d (by erw[e3];refine fM (jx g) ?_;erw[l,et.length rs];simp) e2,U J];have v:=c.s.grown (s':={z.s with heap:=U}) (λ b o e=>J b o (Nat.ne_of_lt (Heap.lt_size e)) e) rfl rfl;exact aU e1 (oF x g l (rs.go v) (c.go v) λ m N e=>B _ m (d5 cT) (v.wide.trans N) e)
 |none=>rw[h]at d;rwa[ac (bc d),i g H];subst H;exact oR x c g r λ m N e=>B _ m (lq j) N e
theorem gF{M:Program}{w:World}{A:Around}{c:PySem.Env}{s:Shared}{t b:Expr}(j:swapsWith b (some t) pos.line c=pure false)(g:swappedStores [t] b c=pure none)(m:∀e p,t≠ .Starred e p)
  (h:wpAny (model M w) A (eval b c) (λ v d=>wpAny (model M w) A (assign t c v) (λ _=>K .next) X d) X s):wpAny (model M w) A (exec (.Assign [t] b pos) c) K X s:=by
 rw[arm_exec_Assign];refine wpAny_bind (wpAny_standAt ?_);show wpAny (model M w) A (swapsWith b (some t) pos.line c >>= _) K X s
 erw[j]
 refine wpAny_bind (wpAny_pure (wpAny_bind (wpAny_mono h (λ v d l=>?_) λ _ _ z=>z)))
 erw[g]
 refine wpAny_bind (wpAny_pure ?_);have e:assignEach [t] c=[(false,assign t c)]:=by rcases t with ⟨⟩<;> first|rfl|exact absurd rfl (m _ _)
 erw[e]
 show wpAny (model M w) A (do assignAll v [assign t c];pure .next) K X d;exact wpAny_bind (wpAny_mono l (λ _ o z=>wpAny_pure z) λ _ _ z=>z)
theorem mK(h:dD k e b=some e')(c:jQ b=false):swapsWith b t l d=pure false:=by
 induction k with
 |zero=>exact aD (h)
 |succ k=>rcases b with ⟨⟩<;> first|rfl|cases c;done|exact aD (h)
theorem lV(h:((jF t).isSome&& (jF b).isSome)=false)(c:rj g t=some e):swappedStores [t] b d=pure none:=by
 rcases t with ⟨⟩<;> first
  |rfl
  |cases c;done
  |rcases b with ⟨⟩<;> first|rfl|exact bZ Bool.ctorIdx (h) rfl
theorem pR(h:rj c t=some b)(e:Expr)(p:Pos):t≠ .Starred e p:=λ q=>by subst q;exact aD (h)
theorem BE{t b:Expr}{h:T}(y:ew θ n k f)(B:jQ b=false)(A:((jF t).isSome&& (jF b).isSome)=false)(r:dD k f.sc b=some e')(g:rj f.sc t=some h):nk θ (n+1) f (.a h e') (.Assign [t] b pos):=fun{ρ z Q E K X} c v x w=>
 gF (mK r B) (lV A g) (pR g) (by
  induction h with
  |one i=>exact y r c.less v (λ a u s o d l=>fk c.st.wr (Q:=λ dH=>Q (.next,dH)) (E:=E) (c.go d) g l (pO o) λ dH j q N e=>x _ _ (s.to j) _ q (d.wide.trans N) e .next) w
  |m G=>exact y r c.less v (λ a u s o d l=>fk c.st.wr (Q:=λ dH=>Q (.next,dH)) (E:=E) (c.go d) g l o λ dH j q N e=>x _ _ (s.to j) _ q (d.wide.trans N) e .next) w)
theorem u5{o i b:Expr}(l:ew θ n k f)(G:jQ b=false)(m:dD k f.sc b=some e')(O:dD k f.sc o=some o')(J:dD k f.sc i=some i'):nk θ (n+1) f (.dc o' i' e') (.Assign [.Subscript o i p] b pos):=λ c B H j=>
 wpAny_Assign_Subscript (l m c.less B (λ _ _ _ A d t=>l O (c.less.go d) A (λ _ _ _ y h s=>l J ((c.less.go d).go h) y (λ _ _ U x g r=>
  ou x g.sim (s.go g) r ((t.go h).go g) λ v w q=>H .next _ v .next w (d.trans (h.trans (g.trans q))).wide (c.e.go (d.trans (h.trans (g.trans q)))) .next)
  (j.after (d.trans h).wide)) (j.after d.wide)) j) (mK m G)
theorem th{o b:Expr}{h:Str}{j:Nat}(W:Wd θ)(m:ew θ n k f)(G:jQ b=false)(q:dD k f.sc b=some e')(J:dD k f.sc o=some o')(B:bH.idxOf? h=some j):nk θ (n+1) f (.aC o' j e') (.Assign [.Attribute o h p] b pos):=λ c A H l=>
 plainObj_wpAny_Assign_Attribute (m q c.less A (λ _ _ _ y g v=>m J (c.less.go g) y (λ _ _ O x d t=>s6 W (m6 B) x d.sim t (v.go d) λ s w r=>H .next _ s .next w (g.trans (d.trans r)).wide (c.e.go (g.trans (d.trans r))) .next) (l.after g.wide)) l) (mK q G)
theorem H7{b:Expr}(q:ew θ n k f)(l:jQ b=false)(d:dD k f.sc b=some e'):nk θ (n+1) f (.e e') (.Expr b pos):=λ c j o m=>wpAny_Expr_any (q d c.less j (λ _ _ r h g _=>o .next _ r .next h g.wide (c.e.go g) .next) m) (by unfold interactive;exact aU c.st.kind rfl) (mK d l)
theorem Uo{test:Expr}{d h:List Stmt}{j:Nat}(q:TT θ n f e' test)(l:∀st,nk θ n f (nG j f.sc st) st):nk θ (n+1) f (.ez e' (d.map (nG j f.sc)) (h.map (nG j f.sc))) (.If test d h pos):=λ c o m g=>wpAny_If (q c.less o ⟨λ r e b=>iC l d (c.less.go b) (lq e) (m.after b.wide) (g.after b.wide),λ r e b=>iC l h (c.less.go b) (lq e) (m.after b.wide) (g.after b.wide)⟩ g)
theorem LL{b:Expr}(o:ew θ n k f)(q:dD k f.sc b=some e'):nk θ (n+1) f (.ret (some e')) (.Return (some b) pos):=λ c j m l=>wpAny_Return_some (o q c.less j (λ _ _ r h d g=>m _ _ r _ h d.wide (c.e.go d) (.ret g)) l)
theorem H6:nk θ (n+1) f (.ret none) (.Return none pos):=fun{_ z _ _ _ _} c b d _=>wpAny_Return_none (d _ _ z _ b (.refl c.s) c.e (.ret .none))
theorem H8:nk θ (n+1) f .cont (.Continue pos):=fun{_ z _ _ _ _} c b d _=>by rw[arm_exec_Continue];exact wpAny_bind (wpAny_standAt (wpAny_pure (d _ _ z _ b (.refl c.s) c.e .cont)))
theorem vP{x:Int}{t:Tok}{b:V}{y:Value}{Q:V->St->Prop}{K:Value->Shared->Prop}(c:wp (jo .Add (.int x) b) Q E z.σ)(S:ec θ z)(r:RZ θ z b y)(d:Ends θ eH z (RZ θ) Q K):
  wpAny (model θ.prog θ.w) f.A (inplaceOp .Add (.int x t) y) K X z.s:=bW c λ _ h g=>by
 rwa[aW (r.gD h),_ e];subst e;exact iadd_int (bP d S (d5 g) (.int _ _))
theorem Ec{G:Prop}{J:I}{e':Mine.E}{Q:V->St->Prop}{v:V}{s:St}{b:Operator}(h:tS J ρ b e' Q E v s)(k:∀x,v=.int x->pw (J.ev ρ e') (kB (jo b) (.int x) Q E) E s->G):G:=by
 induction v using V.casesOn with
 |int x=>exact k x rfl h
 |_=>exact h.elim
theorem zS{y:Str}{b:Expr}(O:ew θ n k f)(j:iD f.sc y=true)(G:nM y=true)(l:cC f.sc y=some i)(U:dD k f.sc b=some e'):nk θ (n+1) f (.lz i .Add e') (.AugAssign (.Name y p) .Add b pos):=fun{ρ z Q E K X} c d J H=>by
 generalize g:(ρ[i]?).getD none=Ss;induction Ss with
 |none=>have d:wp (sb ((ρ[i]?).getD none)) _ _ _:=d;rw[g]at d;exact(jp d).elim
 |some a=>
  have d:wp (sb ((ρ[i]?).getD none)) _ _ _:=d;rw[g]at d;rwa[Ec (lq d),x e NX,e];refine wpAny_AugAssign_Name (ym c (lX G).2.1 (ot j) l (qq g) λ u r=>?_);rwa[aW (RV.iO r),t Y];subst Y;exact O U c.less NX (λ _ _ _ B h s=>vP B h.sim s λ v w bu A m q=>nH c.st.wr (c.go (h.trans m)) j l q λ o N e=>J .next _ (bu.to o) .next A ((h.trans m).wide.trans N) e .next) H
theorem BD{o i b:Expr}(W:Wd θ)(m:ew θ n k f)(h1:dD k f.sc o=some o')(q:dD k f.sc i=some i')(h3:dD k f.sc b=some e'):nk θ (n+1) f (.mv o' i' .Add e') (.AugAssign (.Subscript o i p) .Add b pos):=λ c hq hK l=>
 wpAny_AugAssign_Subscript_any (m h1 c.less hq (λ _ _ _ q1 g y=>m q (c.less.go g) q1 (λ _ _ _ Y d s=>(vO W Y d.sim (y.go d) s (λ _ _ _ j r h=>Ec j λ x e j=>by
  subst e;rwa[aW (RV.iO h),t fZ];subst fZ;exact m h3 (((c.less.go g).go d).go r) j (λ _ _ _ U G h=>vP U G.sim h λ v w ZF O B H=>
   have N:=r.trans (G.trans B)
   ou O B.sim ((y.go d).go N) (s.go N) H λ Si J A=>hK .next _ Si .next J (g.trans (d.trans (N.trans A))).wide (c.e.go (g.trans (d.trans (N.trans A)))) .next)
   (l.after (g.trans (d.trans r)).wide))).2) (l.after g.wide)) l) λ ov iv new=>by
  induction k with
  |zero=>exact aD (q)
  |succ k=>rcases i with ⟨⟩<;> first|rfl|exact aD (q)
end
end
section
open PySem PyProof.Rows
set_option genInjectivity false
set_option genSizeOf false
set_option genCtorIdx false in
inductive yh where
 |li (d i:Nat)|ra (y:Int) (k:Nat)
noncomputable def iW(z:Z)(it:Addr):yh->Prop
 | .li d i=>∃q,z.φ[d]?= some q/\z.s.heap.IsListIter it q i
 | .ra y k=>IsRangeIter z.s.heap it y (k:Int) 1
structure Sf(h:Heap)(it:Addr)(o:Obj)(vs:Array Value):Prop where
 at_:h.get? it=some o
 cls:o.cls=.type "list_iterator" ∨o.cls=.type "range_iterator"
 data:o.data=.fields vs
 no:∀q t,vs[1]? ≠some (.str q t)
structure wV(θ:Th)(z:Z)(it:Addr)(s':Shared):Prop where
 at_:∃o vs,jG θ z it o s'/\o.data=.fields vs
section
variable{θ:Th}{f:Fm}{n k:Nat}{ρ dH:Env}{z z':Z}{a:V}{u:Value}{A:Around}{X:Value->Shared->Prop}{L:Addr->Prop}{it:Addr}{c:yh}{s':Shared}
theorem iW.obj(h:iW z it c):∃o g,Sf z.s.heap it o g:=by
 induction c with
 |li d i=>
  rwa[ac h,q _ b];try clear h;rwa[bR b,o m l j,-b]
  exact(im o _ ⟨m,.inl l,j,λ _ _ e=>uD Value.ctorIdx (e) rfl⟩)
 |ra y k=>exact(im _ _ ⟨h,.inr rfl,rfl,λ _ _ e=>uD Value.ctorIdx (e) rfl⟩)
theorem iW.keep(h:iW z it c)(g:z.φ <+: z'.φ)(e:∀o b,Sf z.s.heap it o b->z'.s.heap.get? it=some o):iW z' it c:=by
 rwa[d9 h.obj,o b I];have k:=e o b I
 induction c with
 |li d i=>
  rwa[ac h,q v l];try clear h;rwa[bR l,m t r p,-l]
  obtain rfl:=an (t.symm.trans I.at_);exact(aw q (lW g v) ⟨m,k,r,p⟩)
 |ra y j=>obtain rfl:=an ((show z.s.heap.get? it=some _ from h).symm.trans I.at_);exact k
theorem iW.ia(h:iW z it c)(d:z.own it=none/\θ.base.get? it=none)(i:∀b o,b≠it->z.s.heap.get? b=some o->j.get? b=some o):wV θ z it {z.s with heap:=j,toks:=t}:=by exact d9 h.obj λ o g I=>⟨o,g,⟨i,d.1,d.2,I.at_,⟨λ _ _ e=>(bZ Data.ctorIdx (I.data.symm.trans e) rfl),λ _ q t e=>by obtain rfl:=Data.fields.inj (I.data.symm.trans e);exact I.no q t,λ _ _ _ e=>(bZ Data.ctorIdx (I.data.symm.trans e) rfl)⟩,rfl,rfl⟩,I.data⟩
theorem wV.nx(T:wV θ z' it s')(N:Nx θ L z z')(h:z.s.heap.get? it=none):Nx θ L z (z'.to s'):=by exact cO T.at_ λ _ _ t _=>N.j9 t (.inl h)
theorem wV.env(T:wV θ z it s')(e:d7 θ f ρ z):d7 θ f ρ (z.to s'):=by exact cO T.at_ λ _ _ t d=>e.j9 t (e.L8 t.old λ _ _ q=>bZ Data.ctorIdx (d.symm.trans q) rfl) λ _ q=>bZ Data.ctorIdx (d.symm.trans q) rfl
theorem wV.rv(T:wV θ z it s')(r:RZ θ z v u):RZ θ (z.to s') v u:=by exact cO T.at_ λ _ _ t _=>r.mono t.tup (List.prefix_refl _)
theorem sq{M:Program}{w:World}{s:Shared}{t:Expr}{o:Obj}{b:Array Value}{Q:Unit->Shared->Prop}(I:Sf s.heap it o b)(h:Q () s):wpAny (model M w) A (letOwnedTupleGo t (.ref it) u) Q X s:=by
 have g:∀e,wpAny (model M w) A (letOwnedTupleGo (.List [] e) (.ref it) u) Q X s:=λ e=>by
  rcases u with ⟨⟩<;> first
   |exact wpAny_pure h
   |(refine wpAny_bind (wpAny_load I.at_ ?_)
     erw[I.data]
     rcases I.cls with e|e<;>(exact aU e (wpAny_pure h)))
 rcases t with ⟨⟩<;> first|exact wpAny_pure h|exact g default
theorem yC{d i:Nat}{g:List V}{K:Option Value->Shared->Prop}(U:A.handled=none)(S:ec θ z)(h:iW z it (.li d i))(y:z.own it=none/\θ.base.get? it=none)(J:z.σ[d]?= some (.list g))
  (Y:g[i]?= none->∀s',wV θ z it s'->K none s') (Q:∀v u s',g[i]?= some v->RZ θ (z.to s') v u->wV θ z it s'->iW (z.to s') it (.li d (i+1))->K (some u) s'):wpAny (model θ.prog θ.w) A (pyNext (.ref it)) K X z.s:=by
 rwa[ac (id h),q r x];rwa[d9 (S.Hx J (.ref r)),p B l];obtain rfl:=Value.ref.inj l.u;generalize e:g[i]?= Sr;induction Sr with
 |none=>
  have j:B.toArray[i]?= none:=by rw[List.getElem?_toArray,List.getElem?_eq_none_iff,← l.len];exact List.getElem?_eq_none_iff.mp e
  exact wpAny_pyNext_list_end U x l.il j λ h' O=>Y e _ (h.ia (t:=z.s.toks) y λ b o m=>O b o m)
 |some v=>rwa[ac (l.rs.get e),u j G];rwa[wpAny_pyNext_list_item x l.il (by exact aU (List.getElem?_toArray) j),h' F7 H];have T:=h.ia (θ:=θ) (t:=z.s.toks) y λ b o m e=>(H.2 b m).trans e;exact Q v u _ e (T.rv G) T (aw q r F7)
theorem yB{y:Int}{K:Option Value->Shared->Prop}(v:A.handled=none)(d:iW z it (.ra y k))(h:z.own it=none/\θ.base.get? it=none)
  (x:k=0->∀s',wV θ z it s'->K none s') (r:∀j u s',k=j+1->RZ θ (z.to s') (.int y) u->wV θ z it s'->iW (z.to s') it (.ra (y+1) j)->K (some u) s'):wpAny (model θ.prog θ.w) A (pyNext (.ref it)) K X z.s:=by
 induction k with
 |zero=>exact wpAny_pyNext_range_end v d (Int.le_refl _) λ B p=>x rfl _ (d.ia (t:=z.s.toks) h λ b o g=>p b o g)
 |succ j=>rwa[wpAny_pyNext_range_item d (Int.natCast_pos.mpr (Nat.succ_pos j)),B i m];rw[show((j+1:Nat):Int) - 1=j by exact mF (.q (.s (.t (.a W0 (.c 1))) (.c 1)) (.t W0)) [] (.s 0 (.l [1]) (.l [1])) rfl]at i;exact r j _ _ rfl (.int _ _) (d.ia (θ:=θ) (t:=z.s.toks+1) h λ b o g e=>(m.2 b g).trans e) i
noncomputable def u4(x:Int)(k:Nat):List Int:=(List.range k).map fun(j:Nat)=>x+(j:Int)
theorem rS(x:Int)(k:Nat):u4 x (k+1)=x::u4 (x+1) k:=by
 unfold u4
 erw[List.range_succ_eq_map,List.map_cons,List.map_map]
 refine congr (congrArg _ (Int.add_zero x)) (List.map_congr_left λ j _=>?_);show x+((j+1:Nat):Int)=x+1+j;exact Mn
theorem fE.Wv(g:uK L z z')(s:fE θ z q):fE θ z' q:=by rwa[cA s,d i e];try clear s;rwa[ac e,o b h,-e];exact(bN (g.stays b d) i ((g.there q o d b).imp λ _ r=>⟨r.1,r.2 h⟩))
theorem dq.pass{E:Str->St->Prop}(b:A9 f)(c:Cx θ f n ρ z)(g:dq θ L z E X):dq θ L z E (notedBy (model θ.prog θ.w) f.A f.env (cameBackBy (model θ.prog θ.w) f.A f.env X)):=λ e a z' q y=>by
 rwa[aW b.fr,l d];rwa[ac c.a.frames,j i h];obtain rfl:=an (d.symm.trans i);exact BO d (h.imp λ _=>.Wv y.go) b.at_ y.sim y.exc
  λ s' t=>g e a (z'.to s') q ⟨y.sim.upd t.upd,y.go.trans (t.upd.go t.gens t.os),t.exc.at_⟩
noncomputable def Ky(J:I)(t:T)(b:List S)(Q:Flow×Env->St->Prop)(E:Str->St->Prop):Nat->yh->Env->St->Prop
 |k,.li d i=>λ ρ e=>ue J t b d k i ρ Q E e
 |_,.ra y k=>λ ρ e=>rA J t b (u4 y k) ρ Q E e
noncomputable def left:Nat->yh->Nat
 |k,.li _ _=>k
 |_,.ra _ k=>k
theorem Bi{J:I}{t:T}{b:List S}{Q:Flow×Env->St->Prop}{E:Str->St->Prop}{K:Option Value->Shared->Prop}(x:A.handled=none)(S:ec θ z)(g:Ky J t b Q E k c ρ z.σ)(o:iW z it c)(G:z.own it=none/\θ.base.get? it=none)
  (B:∀s',Q (.next,ρ) z.σ->wV θ z it s'->K none s')
  (q:∀p m v u s',left p m<left k c->wp (fL t v ρ) (jy J b (gC Q (Ky J t b Q E p m)) E) E z.σ->RZ θ (z.to s') v u->wV θ z it s'->iW (z.to s') it m->K (some u) s'):wpAny (model θ.prog θ.w) A (pyNext (.ref it)) K X z.s:=by
 induction c with
 |li d i=>
  induction k with
  |zero=>exact g.elim
  |succ k=>
   rwa[ac g,O H h,-g];refine yC x S o G H (λ e s' T=>B s' ?_ T) λ v u s' e r T I=>q k (.li d (i+1)) v u s' (Nat.lt_succ_self k) ?_ r T I
   ·rw[e]at h;exact h
   ·rw[e]at h;exact h
 |ra y j=>
  refine yB x o G (λ e s' T=>B s' ?_ T) λ l u s' e r T I=>q k (.ra (y+1) l) (.int y) u s' ?_ ?_ r T I
  ·subst e;exact g
  ·subst e;exact Nat.lt_succ_self l
  ·subst e;have g:rA J t b (u4 y (l+1)) ρ Q E z.σ:=g;rw[rS]at g;exact g
structure Xs(θ:Th)(f:Fm)(z:Z)(it:Addr)(c:yh)(ρ:Env)(z':Z):Prop where
 nx:Nx θ (Loc f.env) z z'
 env:d7 θ f ρ z'
 iter:iW z' it c
 own:z'.own it=none
theorem Fj(e:d7 θ f ρ z)(h:z.s.heap.get? it=some o)(d:o.data=.fields r): ¬ Loc f.env it:=by
 rintro (q|⟨x,_,q⟩)
 ·rwa[ac e.ns,_ i _];rwa[cy i,t y B l j _,-i];obtain rfl:=an (h.symm.trans (q▸l));exact bZ Data.ctorIdx (d.symm.trans j) rfl
 ·rwa[aK (e.cells x it q),_ g];rwa[ac g,v b _];try clear g;rwa[ac b,w p m,-b]
  obtain rfl:=an (h.symm.trans p);exact bZ Data.ctorIdx (d.symm.trans m) rfl
theorem Gf{t:Expr}{g:T}{body:List Stmt}{j:Nat}{Q:Flow×Env->St->Prop}{E:Str->St->Prop}{K:PySem.Flow->Shared->Prop}(hf:A9 f)(hS:∀st,nk θ n f (nG j f.sc st) st)(ht:rj f.sc t=some g)(l:Cx θ f n ρ z)(Y:AR θ f z Q K)(hX:dq θ (Loc f.env) z E X)
  (hb:θ.base.get? it=none) (hz:z.s.heap.get? it=none) {p:Shared} (m:Nat) (h0:∃k c dH z',p=z'.s/\m=left k c/\Ky (TI n) g (body.map (nG j f.sc)) Q E k c dH z'.σ/\Xs θ f z it c dH z'):
  codeAny (model θ.prog θ.w) f.A (.forLoop t (.ref it) body [] f.env) (λ r s'=>match r with| .ok F=>K F s'| .error e=>cameBackBy (model θ.prog θ.w) f.A f.env X e s') p:=by
 refine codeAny_forLoop_any (λ m p=>∃k c dH z',p=z'.s/\m=left k c/\Ky (TI n) g (body.map (nG j f.sc)) Q E k c dH z'.σ/\Xs θ f z it c dH z') (λ m p h=>?_) m h0;rwa[kT h,k c dH z' fO gU hr b];try clear h;subst fO;subst gU
 have hP:=hX.pass hf l;rwa[Bi l.st.handled b.nx.sim hr b.iter ⟨b.own,hb⟩ (λ G q T=>wpAny_pure (Y _ _ (z'.to G) .next q (T.nx b.nx hz) (T.env b.env) .next)),U c' v u G lt q r T I];rwa[d9 I.obj,o vs i];have x:=T.nx b.nx hz;have QX:=T.env b.env;refine sq i (fk (z:=z'.to G) l.st.wr (l.at x QX) ht r q λ G7 bf Ib d Xy=>?_);have J:=Fj QX i.at_ i.data;refine iC hS body (z:=z'.to bf) (l.at (x.trans d) Xy) (lq Ib) (λ fl G6 y F H B QW Up=>?_) (hP.after (x.trans d));have NN:=x.trans (d.trans B);have k3:=d.go.keep it o J b.own i.at_;have Xv:=I.keep (d.trans B).go.pre λ o' HX NC=>(d.trans B).go.keep it o' J b.own NC.at_;have O:Ky (TI n) g (body.map (nG j f.sc)) Q E U c' G6 y.σ->∃m,m<left k c/\∃k c dH z',y.s=z'.s/\m=left k c/\Ky (TI n) g (body.map (nG j f.sc)) Q E k c dH z'.σ/\Xs θ f z it c dH z':=λ q=>(aw _ lt ⟨U,c',G6,y,rfl,rfl,q,NN,QW,Xv,(d.trans B).go.stays i.at_ b.own⟩)
 induction Up with
 |next=>exact O H
 |cont=>exact O H
 |ret r=>exact Y _ _ y _ H NN QW (.ret r)
end
end
section
open PySem PyProof.Rows
section
variable{θ:Th}{f:Fm}{n k:Nat}{ρ:Env}{z z':Z}{a:V}{u:Value}{X:Value->Shared->Prop}{L:Addr->Prop}{it:Addr}{s':Shared}{E:Str->St->Prop}{K:Value->Shared->Prop}{pos p:Pos}{P:yh->St->Prop}
theorem tT(h:EE b x e=true):∃p,e=.Name x p/\cG b x=true:=by
 unfold EE at h;generalize q:n7 e=i;induction i with
 |none=>rw[q]at h;exact bZ Bool.ctorIdx (h) rfl
 |some y=>rw[q]at h;rwa[aW (lA q),p g];subst g;rwa[aK (bV h),d c];obtain rfl:=beq_iff_eq.mp c;exact(aw p rfl d)
theorem nS{y:Str}{T:String}(W:Wd θ)(c:Cx θ f n ρ z)(i:cG f.sc y=true)(g:∀b d,QS θ b d→b y=none∧d y=some (.type T))(j:(y==("__debug__" :Str))=false)(h:K (.type T) z.s):wpAny (model θ.prog θ.w) f.A (eval (.Name y p) f.env) K X z.s:=by
 rwa[d9 W.top,b d e];rwa[aK (g b d e),m l];refine Calls.Name_function_global c.st.kind (c.st.kinds y _ (beq_iff_eq.mp i) (by decide)) (Calls.loadGlobal_builtin ?_ m ?_ l h) j
 ·exact aU c.st.globals (c.s.ns e.main)
 ·exact aU c.st.builtins (c.s.ns e.blt)
theorem jD{M:Program}{w:World}{A:Around}{b:PySem.Env}{s:Shared}{g:Expr}{c:List Expr}(d:jY g=none)
  (h:wpAny (model M w) A (eval g b) (λ v i=>wpAny (model M w) A (callWith pos v [] (backTo pos (starEach c b)) []) K X i) X s):wpAny (model M w) A (eval (.Call g c [] pos) b) K X s:=by
 have e:eval (.Call g c [] pos) b=(do callWith pos (← eval g b) [] (backTo pos (starEach c b)) (backToKw pos (keywordEach [] b))):=by rcases g with ⟨⟩<;> first|rfl|exact dk (d)
 exact aU e (wpAny_bind h)
noncomputable def Q2(θ:Th)(z:Z)(Q:Int×Int->St->Prop)(K:Value->Shared->Prop):Prop:=∀x y z' it d c b,Q (x,y) z'.σ->Nx θ eH z z'->IsRange z'.s.heap it x y 1 d c b->iZ x=true->iZ y=true->K (.ref it) z'.s
theorem rV{G:Prop}{a b:V}{Q:Int×Int->St->Prop}{c:St}(h:wp (gb a b) Q E c)(k:∀x y,gD a=some x->gD b=some y->iZ x=true->iZ y=true->Q (x,y) c->G):G:=
 jb h λ x y g e h=>gA h λ d h=>k x y g e (bV d).1 (bV d).2 (d5 h)
theorem Cx.grow(S:ec θ z)(o:Obj)(t:Nat):Nx θ eH z (z.to {z.s with heap:=z.s.heap.push o,toks:=t}):=S.grown (s':={z.s with heap:=z.s.heap.push o,toks:=t}) (λ _ _ e=>Heap.get?_push_of_some _ e) rfl rfl
theorem xa{g e:Expr}{d:Mine.E}{Q:Int×Int→St→Prop}(W:Wd θ)(B:ew θ n k f)(q:EE f.sc ("range" :Str) g=true)(b:dD k f.sc e=some d)(c:Cx θ f n ρ z)(m:pw (jg (TI n) ρ none d) Q E z.σ)(v:Q2 θ z Q K)(r:dq θ (Loc f.env) z E X):
  wpAny (model θ.prog θ.w) f.A (eval (.Call g [e] [] pos) f.env) K X z.s:=by
 rwa[ac (tT q),p Y o];subst Y;refine jD rfl (nS W c o (λ _ _ T=>T.range) (by decide) ?_)
 erw[iy b]
 refine PyProof.Rows.callWith_type rfl (Calls.evalArgs_plain (Calls.spliced_cons (B b c m (λ _ _ U j h i=>Calls.spliced_nil (rV j λ x y H G l o2 J=>?_)) r)));rwa[aW (i.gD G),t O];subst O;obtain rfl:=an H;exact call_range_1 (v 0 y (U.to _) _ _ _ _ J (h.trans (Cx.grow h.sim _ _)) (Heap.get?_push_size _ rfl) l o2)
theorem pF{g e d:Expr}{m o:Mine.E}{Q:Int×Int→St→Prop}(W:Wd θ)(i:ew θ n k f)(U:EE f.sc ("range" :Str) g=true)(l:dD k f.sc e=some m)(j:dD k f.sc d=some o)(c:Cx θ f n ρ z)(J:pw (jg (TI n) ρ (some m) o) Q E z.σ)(Y:Q2 θ z Q K)(h:dq θ (Loc f.env) z E X):
  wpAny (model θ.prog θ.w) f.A (eval (.Call g [e,d] [] pos) f.env) K X z.s:=by
 rwa[ac (tT U),p dy O];subst dy;refine jD rfl (nS W c O (λ _ _ T=>T.range) (by decide) ?_)
 erw[iy l,iy j]
 refine PyProof.Rows.callWith_type rfl (Calls.evalArgs_plain (Calls.spliced_cons (i l c J (λ _ _ bI G b v=>Calls.spliced_cons (i j (c.go b) G (λ _ _ bu B q r=>Calls.spliced_nil (rV B λ x y e1 e2 H o2 cT=>?_)) (h.after b.wide))) h)));rwa[aW (v.gD e1),t eK];subst eK;rwa[aW (r.gD e2),t' fO];subst fO;exact call_range_2 (Y x y (bu.to _) _ _ _ _ cT (b.trans (q.trans (Cx.grow q.sim _ _))) (Heap.get?_push_size _ rfl) H o2)
noncomputable def G4(θ:Th)(z:Z)(P:yh->St->Prop)(K:Value->Shared->Prop):Prop:=∀c z' it,P c z'.σ->Nx θ eH z z'->iW z' it c->z'.own it=none->θ.base.get? it=none->z.s.heap.get? it=none->K (.ref it) z'.s
theorem Nx.wX(N:Nx θ L z z')(h:z'.s.heap.get? b=none):z.s.heap.get? b=none:=by
 generalize e:z.s.heap.get? b=c;induction c with
 |none=>rfl
 |some o=>
  generalize q:z.own b=d;induction d with
  |none=>exact(N.go.there b o q e).elim λ _ r=>aD (h.symm.trans r.1)
  |some i=>exact(N.sim.there b i (N.go.ext b i q)).elim λ _ r=>aD (h.symm.trans r.1)
theorem B0(e:G4 θ z P K)(q:P c b.σ)(N:Nx θ eH z b)(h:iW (b.to {b.s with heap:=b.s.heap.push o}) b.s.heap.objs.size c):K (.ref b.s.heap.objs.size) {b.s with heap:=b.s.heap.push o}:=by have d:b.s.heap.get? b.s.heap.objs.size=none:=Heap.get?_none_of_le (Nat.le_refl _);exact e c (b.to _) _ q (N.trans (Cx.grow N.sim o _)) h (N.sim.fresh d).1 (N.sim.fresh d).2 (N.wX d)
theorem FV{v:V}{d:Nat}{c:List V}{b:Z}{A:Around}(g:G4 θ z P K)(e:b.σ[d]?= some (.list c))(q:P (.li d 0) b.σ)(N:Nx θ eH z b)(r:RZ θ b (.ref d) u):wpAny (model θ.prog θ.w) A (pyIter u) K X b.s:=by rwa[d9 (N.sim.Hx e r),p h l];obtain rfl:=l.u;exact wpAny_pyIter_list l.il (B0 g q N (aw p l.foot ⟨_,Heap.get?_push_size _ rfl,rfl,rfl⟩))
theorem yZ{x y:Int}{e d c:Tok}{b:Z}{A:Around}(h:G4 θ z P K)(q:P (.ra x (y - x).toNat) b.σ)(N:Nx θ eH z b)(r:IsRange b.s.heap it x y 1 e d c)(g:iZ x=true)(o2:iZ y=true):wpAny (model θ.prog θ.w) A (pyIter (.ref it)) K X b.s:=by refine wpAny_pyIter_range r (oy g o2) ?_;rw[rangeSize_nat];exact B0 h q N (Heap.get?_push_size _ rfl)
inductive lc(k:Nat)(sc:List (Str×NameKind)):Expr->o6->Prop
 |li {e:Expr} {e':Mine.E}:dD k sc e=some e'->lc k sc e (.inl e')
 |XR {g e:Expr} {e':Mine.E} {pos:Pos}:EE sc ("range" :Str) g=true→dD k sc e=some e'→lc k sc (.Call g [e] [] pos) (.inr (none,e'))
 |XQ {g e d:Expr} {e' d':Mine.E} {pos:Pos}:EE sc ("range" :Str) g=true→dD k sc e=some e'→dD k sc d=some d'→lc k sc (.Call g [e,d] [] pos) (.inr (some e',d'))
theorem AO{e:Expr}{q:Expr×List Expr×List Keyword}(h:yd e=some q):∃p,e=.Call q.1 q.2.1 q.2.2 p:=by rcases e with ⟨⟩<;> first|obtain rfl:=an (h);exact⟨_,rfl⟩|exact aD (h)
theorem yc{b:List (Str×NameKind)}{x:Str}{e:Expr}{c:List Expr}(h:QN b x e=some c):∃g p,e=.Call g c [] p/\EE b x g=true:=by rwa[ac (aE h),q m h];rwa[aW (AO m),p o];subst o;rwa[aK (fe h),l j];rwa[aK (bV l),i d];obtain rfl:=an j;exact(ff _ p (by erw[List.isEmpty_iff.mp d];rfl) i)
theorem Bx{i:List (Str×NameKind)}{e:Expr}{c:o6}(h:yo i (dD k i) e=some c):lc k i e c:=by
 unfold yo at h;generalize q:QN i ("range" :Str) e=y;induction y with
 |none=>rw[q]at h;rwa[ac (bc h),_ d m];subst m;exact .li d
 |some j=>
  rw[q]at h;rwa[cO (yc q),g p s l];subst s;generalize o:one j=A;induction A with
  |some b=>have h:(match one j with|some b=>_|none=>_)=some c:=h;rw[o]at h;rwa[ac (bc h),_ d x];subst x;exact aU (fA o) (.XR l d)
  |none=>have h:(match one j with|some b=>_|none=>_)=some c:=h;rw[o]at h;rwa[ac (aE h),r v h];rwa[ac (aE h),_ d h];rwa[ac (bc h),_ t w];subst w;exact aU (jJ v) (.XQ l d t)
theorem xO{e:Expr}{b:o6}{c:PySem.Env}(h:lc k f.sc e b)(y:Value):foldedSetIterable e c y=pure y:=by
 cases h with
 |li h=>induction k using Nat.casesOn with
  |zero=>exact aD (h)
  |succ k=>rcases e with ⟨⟩<;> first|rfl|exact aD (h)
 |_=>rfl
noncomputable def Kw(J:I)(ρ:Env)(P:yh->St->Prop)(E:Str->St->Prop)(b:St):o6->Prop
 | .inl e=>∃Q,pw (J.ev ρ e) Q E b/\∀v s,Q v s->∃d c,v=.ref d/\s[d]?= some (.list c)/\P (.li d 0) s
 | .inr r=>∃Q,pw (jg J ρ r.1 r.2) Q E b/\∀q s,Q q s->P (.ra q.1 (q.2 - q.1).toNat) s
theorem sZ{e:Expr}{g:o6}(W:Wd θ)(t:ew θ n k f)(h:lc k f.sc e g)(c:Cx θ f n ρ z)(b:Kw (TI n) ρ P E z.σ g)(o:G4 θ z P K)(m:dq θ (Loc f.env) z E X):
  wpAny (model θ.prog θ.w) f.A (eval e f.env) (λ v ay=>wpAny (model θ.prog θ.w) f.A (pyIter v) K X ay) X z.s:=by
 induction h with
 |li h=>
  obtain ⟨Q,b,i⟩:=b;exact t h c b (λ v u H Y N1 U=>by rwa[cX (i _ _ Y),d vs bw G B];subst bw;exact FV (v:=.ref d) o G B N1 U) m
 |XR l h=>obtain ⟨Q,b,i⟩:=b;exact xa W t l h c b (λ x y H it oV O J q N r j o2=>yZ o (i _ _ q) N r j o2) m
 |XQ l G B=>obtain ⟨Q,b,i⟩:=b;exact pF W t l G B c b (λ x y H it oV O J q N r j o2=>yZ o (i _ _ q) N r j o2) m
theorem LK(a b:Int):di a b=u4 a (b - a).toNat:=rfl
theorem LM{t iter:Expr}{i:T}{body:List Stmt}{d:o6}{j:Nat}(W:Wd θ)(J:A9 f)(Y:ew θ n k f)(O:∀st,nk θ n f (nG j f.sc st) st)(H:rj f.sc t=some i)(g:lc k f.sc iter d):nk θ (n+1) f (.ek i d (body.map (nG j f.sc))) (.For t iter body [] pos):=fun{ρ z Q E K X} c l U w=>by
 refine wpAny_For (sZ (P:=λ c B=>∃m,Ky (TI n) i (body.map (nG j f.sc)) Q E m c ρ B) (E:=E) W Y g c.less ?_ (λ x bI it y N I o b e=>by rwa[aW y,m q,-y];exact Gf J O H c.less U w b e (left m x) (me m x ρ bI rfl rfl q ⟨N.wide,c.e.go N,I,o⟩)) w) (xO g)
 induction d with
 |inl e'=>exact(aw _ l (λ v s A=>by rwa[cX A,a G g h2 h3,-A];exact(c9 a G g h2 ⟨_,h3⟩)))
 |inr r=>exact(aw _ l (λ q s h=>⟨0,h⟩))
theorem E8{test:Expr}{body:List Stmt}{b:Mine.E}(g:A9 f)(i:TT θ n f b test):nk θ (n+1) f (.nA b) (.While test body [] pos):=fun{ρ z Q E K X} c d j h=>
 wpAny_While (codeAny_whileLoop (λ _ s'=>s'=z.s) (λ m s' b=>by subst b;exact i c.less d ⟨λ _ q _=>q.elim,λ l q N=>wpAny_pure (j .next ρ l .next q N.wide (c.e.go N) .next)⟩ (h.pass g c.less)) 0 rfl)
end
section
variable{θ:Th}{A:Around}{f:Fm}{n k:Nat}{ρ:Env}{z z' bI:Z}{a:V}{u:Value}{X K:Value->Shared->Prop}{L L':Addr->Prop}{Q:V->St->Prop}{E:Str->St->Prop}{g:Fn}{ad:Addr}{vs:List V}{us rest:List Value}{kw:List (Str×Value)}
theorem uK.shrink(N:uK L' z z')(c:∀b,L' b->z.s.heap.get? b=none):uK L z z':=⟨N.pre,N.ext,N.new,λ b o _ e h=>N.keep b o (λ l=>aD ((c b l).symm.trans h)) e h,N.there,N.gens,N.os⟩
theorem Nx.shrink(N:Nx θ L' z z')(c:∀b,L' b->z.s.heap.get? b=none):Nx θ L z z':=⟨N.sim,N.go.pre,N.go.ext,N.go.new,λ b o _ e h=>N.go.keep b o (λ l=>aD ((c b l).symm.trans h)) e h,N.go.there,N.go.tup,N.go.gens,N.go.os⟩
theorem uK.widen(x:uK eH z z'):uK L z z':=⟨x.pre,x.ext,x.new,λ b o _=>x.keep b o id,x.there,x.gens,x.os⟩
theorem dq.narrow(h:dq θ L z E X):dq θ eH z E X:=λ b a z' q y=>h b a z' q ⟨y.sim,y.go.widen,y.exc⟩
noncomputable def mE(θ:Th)(n:Nat):Prop:=∀ {f:Fm} {k:Nat},A9 f->∀st,nk θ n f (nG k f.sc st) st
theorem ww(G:mE θ n)(B:G5 z f)(N:Nx θ eH z bI)(c:Cx θ f n ρ bI)(p:pw (execs (TI n) (body.map (nG k f.sc)) ρ) (ko Q) E bI.σ)(i:Ends θ eH z (RZ θ) Q K)(x:dq θ eH z E X):
  wpAny (model θ.prog θ.w) f.A (PySem.execs body f.env) (λ f b=>K (match f with| .ret v=>v|_=>.none) b) (λ e b=>wpAny (model θ.prog θ.w) f.A (leaving f.env e) (λ _ h=>X e h) (λ O h=>X O h) b) bI.s:=by
 refine iC (G B.top) body c p (λ fl dH d F q U _ r=>?_) λ o a d q y=>?_
 ·have m:Nx θ eH z d:=(N.wide.trans U).shrink B.fresh
  induction r with
  |next=>exact i .none _ d q m .none
  |cont=>exact q.elim
  |ret r=>exact i _ _ d q m r
 ·rwa[aW B.top.fr,l j];rwa[ac c.a.frames,Y J H];obtain rfl:=an (j.symm.trans J);exact Aa j (H.imp λ _=>.Wv y.go) B.top.at_ y.sim y.exc λ b t=>x o a (d.to b) q ⟨y.sim.upd t.upd,((N.go.wide.Bj y.go).shrink B.fresh).trans (t.upd.go t.gens t.os),t.exc.at_⟩
theorem zp{G:Prop}{b:St}(h:pw (iY (TI n) g vs) Q E b)(k:∀ρ,ij g vs=some ρ->pw (execs (TI n) g.body ρ) (ko Q) E b->G):G:=by
 have h:(match ij g vs with|some ρ=>pw (execs (TI n) g.body ρ) (ko Q) E b|none=>False):=h;generalize e:ij g vs=c;induction c with
 |none=>rw[e]at h;exact h.elim
 |some ρ=>rw[e]at h;exact k ρ e h
theorem Dk{o:Obj}{i:FuncData}{body:List Stmt}{b:List Str}{args:Args}(W:Wd θ)(m:mE θ n)(q:o7 θ A n z)(S:ec θ z)(h:o8 θ ad g o i body b)(j:BindsTo z.s i args (b.zip us))(r:j0 θ z vs us)
  (d:pw (iY (TI n) g vs) Q E z.σ) (p:Ends θ eH z (RZ θ) Q K) (l:dq θ eH z E X):wpAny (model θ.prog θ.w) A (call (.ref ad) args.pos args.kw) K X z.s:=
 zp d λ ρ e d=>entry W q S h j r e λ f v _ t B N c=>ww m B N c (by exact aU t (fM h.ir d)) p l
theorem sO(h:ij g vs=some b):g.params.length=vs.length:=by
 unfold ij at h
 split at h
 ·assumption
 ·exact aD (h)
structure FnAt(θ:Th)(a:Addr)(g:Fn):Prop where
 at_:∃o fd body names,o8 θ a g o fd body names/\∀vals,vals.length=names.length->bindArgs fd ⟨vals,[]⟩=pure (names.zip vals)
theorem Dm(W:Wd θ)(j:mE θ n)(p:o7 θ A n z)(S:ec θ z)(h:FnAt θ ad g)(r:j0 θ z vs us)(c:pw (iY (TI n) g vs) Q E z.σ)(l:Ends θ eH z (RZ θ) Q K)(i:dq θ eH z E X):wpAny (model θ.prog θ.w) A (call (.ref ad) us) K X z.s:=by exact nX h.at_ λ o q body b d m=>zp c λ ρ e _=>Dk W j p S d (args:=⟨us,[]⟩) (.of_eq (m us (by refine fM (et.length r) (fM (sO e) ?_);erw[jx d.params];rfl))) r c l i
structure yf(θ:Th)(k:Nat)(g:Fn)(rest:List Value)(kw:List (Str×Value))(us:List Value)(N:Addr)(mN:Str->Option Value)(fI:Addr)(o:Obj)(fd:FuncData)(body:List Stmt)(names:List Str):Prop where
 cls:ClsAt θ.base (θ.P.ca k) N mN
 Vc:mN "__init__" =some (.ref fI)
 fn:o8 θ fI g o fd body names
 args:∀x (s:Shared),(∀b o,θ.base.get? b=some o->s.heap.get? b=some o)->BindsTo s fd ⟨x::rest,kw⟩ (names.zip (x::us))
noncomputable def KL(C:Addr)(us:List Value)(kw:List (Str×Value)):Code:=.builtin "type.__call__" ⟨.ref C::us,kw⟩
theorem zR(A:Around)(C:Addr)(us:List Value)(kw:List (Str×Value)):(A.under (KL C us kw)).units<=A.units+5:=
 Nat.add_le_add_left (show(KL 0 [] []).cUnits<=5 by decide+kernel) _
theorem w5(A:Around)(C:Addr)(us:List Value)(kw:List (Str×Value)):(A.under (KL C us kw)).frames=A.frames:=by
 show pushEnvs (KL C us kw).envs A.frames=_
 erw[show(KL C us kw).envs=[]from rfl]
 cases A.frames<;> rfl
theorem o7.under(j:A.handled=none)(b:pn θ A (n+1) z)(C:Addr)(us:List Value)(kw:List (Str×Value)):o7 θ (A.under (KL C us kw)) n z:=by have h:=b.depth;have e:=b.units;have d:=zR A C us kw;exact⟨j,⟨by show A.depth+1+2 * n<=900;exact Mk h,by exact jI (.i (.a W0 (.m 20 W1)) (.c 8000)) [.i (.a W2 (.m 20 (.a W1 (.c 1)))) (.c 8000),.i W0 (.a W2 (.c 5))] (.l [1,1,1]) rfl e d,by rw[w5];exact b.frames,b.GO⟩,by show A.depth+1+1+2 * n<=900;exact iA (.i (.a (.a (.a W0 (.c 1)) (.c 1)) (.m 2 W1)) (.c 900)) [.i (.a W0 (.m 2 (.a W1 (.c 1)))) (.c 900)] (.l [1,1]) rfl h,by exact jI (.i (.a (.a W0 (.c 3)) (.m 20 W1)) (.c 8000)) [.i (.a W2 (.m 20 (.a W1 (.c 1)))) (.c 8000),.i W0 (.a W2 (.c 5))] (.l [1,1,1]) rfl e d⟩
theorem je(h:c b=none)(n:b≠x):de c x i b=none:=(if_neg n).trans h
theorem zy(W:Wd θ)(hS:mE θ n)(hh:A.handled=none)(ca:pn θ A (n+1) z)(S:ec θ z)(p:yf θ m g rest kw us N mN fI o fd body O)(r:j0 θ z vs us)
  (U:wp (cY (.inst m [])) (m4 (TI n) g vs Q E) E z.σ) (hK:Ends θ eH z (RZ θ) Q K) (hX:dq θ eH z E X):wpAny (model θ.prog θ.w) A (call (.ref (θ.P.ca m)) rest kw) K X z.s:=by
 obtain ⟨OC,V9⟩:=p.cls.keeps S.old;rwa[DN OC,nm q bs sn sub col dd k0 k1 k2 k3 k5 VC,-OC];obtain ⟨φ,i,c,hp,gg,dr,H,os⟩:=z;have U:=hZ U;rwa[wv VC V9 p.Vc (S.old _ _ p.fn.at_) p.fn.cls,B x l h];rwa[dR h.inst,J Y g2 g3 g4];have G:=h.dict J Y;obtain ⟨iI,od,es,ep,d1,d2,_⟩:l≠x/\B.Ns1 l λ _=>none:=by
  rcases g4 with ⟨z,_⟩|⟨d,z,n1,n2⟩
  ·exact dk (G.symm.trans z)
  ·obtain rfl:=an (G.symm.trans z);exact⟨n1,n2⟩
 have fx:=(S.fresh h.newX).1;have WD:=(S.fresh h.newD).1;have t:=S.alloc (s':=⟨B,gg,dr,H,os⟩) (a:=x) (o:=.inst m []) (own':=de (de i x c.length) l c.length) h.keeps rfl rfl
  (λ b j e=>jZ (je WD iI) b j (jZ fx b j e))
  (λ b j e e'=>by
   by_cases q:b=l
   ·subst q;exact(bN (an (e'.symm.trans (fX ..))) h.newD ⟨od,d1,λ _ ED n q=>bZ Data.ctorIdx (d2.symm.trans q) rfl⟩)
   ·rwa[aK (iP b j e ((n9 q).symm.trans e')),bw b7];subst bw;subst b7;exact(bN rfl h.newX ⟨J,Y,.of (by exact aU g2 (λ q=>bZ Value.ctorIdx (q) rfl))⟩))
  ((n9 iI.symm).trans (fX ..)) λ tk=>(qi J l _ Y G (fX ..) h.inst (λ y hy=>absurd rfl hy) (λ j y hy=>.none))
 have rx:RZ θ ⟨φ++[x],de (de i x c.length) l c.length,c++[d4.inst m []],⟨B,gg,dr,H,os⟩⟩ (.ref c.length) (.ref x):=.ref (by rw[List.getElem?_append_right (S.len▸Nat.le_refl _),← S.len,Nat.sub_self];rfl);exact Dk (z:=⟨φ++[x],de (de i x c.length) l c.length,c++[d4.inst m []],⟨B,gg,dr,H,os⟩⟩) (args:=⟨.ref x::rest,kw⟩) W hS (o7.under hh (ca.imp λ _=>.go t.go) (θ.P.ca m) rest kw) t.sim p.fn (p.args (.ref x) _ t.sim.old) (.cons rx (j0.go r t)) U (λ v u bu q N2 r=>by
  induction v using V.casesOn with
  |none=>obtain rfl:=RV.sQ r;exact⟨rfl,hK _ _ bu q (t.trans N2) (rx.go N2)⟩
  |_=>exact q.elim) (hX.after t)
end
structure GZ(fd:FuncData)(g:Fn)(body:List Stmt)(n1 n2:Str)(i1 i2 j:Nat):Prop where
 stmts:fd.body=.stmts body
 bind:∀u1 u2,bindArgs fd ⟨[u1,u2],[]⟩=pure [(n1,u1),(n2,u2)]
 ne:n1≠n2
 F3:cC fd.scope.names n1=some i1
 F1:cC fd.scope.names n2=some i2
 FZ:cC fd.scope.names (Str.ofString "told")=some j
 params:g.params=[i1,i2,j]
 UT:fd.scope.names.lookup n1=some .local
 US:fd.scope.names.lookup n2=some .local
 Nk:fd.scope.names.lookup (Str.ofString "told")=some .free
 all:∀x k,fd.scope.names.lookup x=some k→k=.globalImplicit∨x=n1∨x=n2∨x=Str.ofString "told"
 BX:∀x∈fd.scope.names,x.2≠ .cell
 nv:g.nv=fd.scope.names.length
 ir:g.body=body.map (nG 60 fd.scope.names)
 co:fd.scope.isCoroutine=false
 gen:fd.scope.isGenerator=false
 kind:fd.scope.kind=.function
 globals:fd.globals=mainGlobals
 builtins:fd.builtins=builtinsNs
section
variable{θ:Th}{A:Around}{f:Fm}{n k:Nat}{ρ:Env}{z z' bI:Z}{a oU po:V}{u u1 u2:Value}{X K:Value->Shared->Prop}{L L':Addr->Prop}{Q:V->St->Prop}{E:Str->St->Prop}{g:Fn}{ad:Addr}{vs:List V}{us rest:List Value}{kw:List (Str×Value)}
theorem Um{l:List (Option V)}{c b j:Nat}{v1 v2 v3:Option V}(o:c≠b)(m:c≠j)(i:b≠j)(h:c<l.length)(e:b<l.length)(d:j<l.length):
  (((l.set c v1).set b v2).set j v3)[c]?= some v1/\(((l.set c v1).set b v2).set j v3)[b]?= some v2/\(((l.set c v1).set b v2).set j v3)[j]?= some v3:=by
 refine(bN ?_ ?_ ?_)
 ·erw[List.getElem?_set_ne m.symm,List.getElem?_set_ne o.symm,List.getElem?_set_self h];rfl
 ·erw[List.getElem?_set_ne i.symm,List.getElem?_set_self (by rw[List.length_set];exact e)];rfl
 ·erw[List.getElem?_set_self (by rw[List.length_set,List.length_set];exact d)];rfl
theorem xD(h:cC b y=some i):i<b.length:=by have:=(cw.mp (tZ h)).1;rwa[bo]at this
theorem xC(h:cC b x=some i)(c:cC b y=some j)(n:x≠y):i≠j:=λ e=>n (tY h (e▸c))
theorem yr(T:GZ i g body c b h d j):c≠Str.ofString "told" ∧b≠Str.ofString "told" :=
 ⟨λ e=>(uD NameKind.ctorIdx ((e▸T.UT).symm.trans T.Nk) rfl),λ e=>(uD NameKind.ctorIdx ((e▸T.US).symm.trans T.Nk) rfl)⟩
theorem Bp{l:Nat}{d:FuncData}{body:List Stmt}{t r:Str}{i1 i2 j:Nat}{b c cc:Addr}{o:Obj}(W:Wd θ)(hS:mE θ n)(J:o7 θ A n z)(S:ec θ z)(T:GZ d g body t r i1 i2 j)(O:HO θ z ad l b c cc o d)
  (r1:RZ θ z oU u1) (r2:RZ θ z po u2) (hq:pw (iY (TI n) g [oU,po,.ref l]) Q E z.σ) (hK:Ends θ eH z (RZ θ) Q K) (hX:dq θ eH z E X):wpAny (model θ.prog θ.w) A (call (.ref ad) [u1,u2]) K X z.s:=by
 rwa[d9 W.top,mg mb Tp];have hd:=J.depth;have hu:=J.units;rwa[zp hq,ρ e hq];have qX:ρ=(((List.replicate g.nv none).set i1 (some oU)).set i2 (some po)).set j (some (.ref l)):=by unfold ij at e;rw[T.params]at e;exact(an e).symm
 have RH:(List.replicate g.nv (none:Option V)).length=d.scope.names.length:=by erw[List.length_replicate,T.nv];rfl
 rwa[cA (Um (l:=List.replicate g.nv none) (v1:=some oU) (v2:=some po) (v3:=some (.ref l)) (xC T.F3 T.F1 T.ne) (xC T.F3 T.FZ (yr T).1) (xC T.F1 T.FZ (yr T).2) (RH▸xD T.F3) (RH▸xD T.F1) (RH▸xD T.FZ)),a1 a2 a3];rw[← qX]at a1 a2 a3;refine wpAny_call (codeAny_call_def (body:=body) (binds:=[(t,u1),(r,u2)]) (by show A.depth<1000;exact Mj hd) O.at_ O.data (Tp.vn.keeps S.old) O.rm T.stmts (.of_eq (T.bind u1 u2)) T.BX (λ x G=>?_) (λ p mh fU=>?_) T.co T.gen T.kind)
 ·rcases List.mem_cons.mp G with rfl|G
  ·exact T.UT
  ·rcases List.mem_cons.mp G with rfl|G
   ·exact T.US
   ·exact bQ (G)
 ·have Y:Nx θ eH z (z.to {z.s with heap:=p,toks:=z.s.toks+[(t,u1),(r,u2)].length}):=S.grown (s':={z.s with heap:=p,toks:=z.s.toks+[(t,u1),(r,u2)].length}) fU rfl rfl;have U:z.s.heap.get? z.s.heap.objs.size=none:=Heap.get?_none_of_le (Nat.le_refl _);have lN:(callEnv d z.s.heap.objs.size ad).cells=[(Str.ofString "told",c)]:=O.Uh.closure;have RG:∀x q,(callEnv d z.s.heap.objs.size ad).cells.lookup x=some q→x=Str.ofString "told" ∧q=c:=by
   intro x q e;rw[lN,List.lookup_cons]at e
   split at e
   ·rename_i h;exact⟨beq_iff_eq.mp h,(an e).symm⟩
   ·exact aD (e)
  have m:∀x i,cG d.scope.names x=false→cC d.scope.names x=some i→x=t∨x=r∨x=Str.ofString "told" :=fun x i h1 h2=>by
   rwa[ac (ji h2),k e1 _];rcases T.all x k e1 with rfl|z
   ·unfold cG at h1;rw[e1]at h1;exact absurd h1 (by decide)
   ·exact z
  rwa[cA (J.a.GO c O.cl),q1 q2 _];have Zp:pn θ A n (z.to {z.s with heap:=p,toks:=z.s.toks+[(t,u1),(r,u2)].length}):=J.a.imp λ _=>.go Y.go;have B:G5 z ⟨A.deeper (callEnv d z.s.heap.objs.size ad),callEnv d z.s.heap.objs.size ad,d.scope.names⟩:=⟨⟨J.a.frames.imp λ _ h=>Around.frames_deeper h.1,rfl⟩,λ b hb=>hb.elim (λ e=>e▸U) fun⟨x,k1,q⟩=>by rwa[aK (RG x b q),bw b7];subst bw;subst b7;exact uD NameKind.ctorIdx ((show d.scope.names.lookup (Str.ofString "told")=some .cell from k1).symm.trans T.Nk) rfl⟩
  refine ww (ρ:=ρ) (f:=⟨A.deeper (callEnv d z.s.heap.objs.size ad),callEnv d z.s.heap.objs.size ad,d.scope.names⟩) hS B Y ⟨⟨T.kind,λ _ _ e _=>e,T.globals,T.builtins,λ x i hg H=>?_,(S.fresh U).2,λ x q e=>absurd rfl (T.BX _ (mem_of_lookup e)),λ x y q ex ey=>((RG x q ex).1).trans (RG y q ey).1.symm,J.handled⟩,
   ⟨by show A.depth+1+2 * n<=900;exact Mi hd,by show A.units+3+20 * n<=8000;exact Mh hu,?_,Zp.GO⟩,⟨(aw _ mh (λ x G i v hg H hv=>?_)),λ x q e=>?_,by erw[qX,List.length_set,List.length_set,List.length_set,RH];rfl,(S.fresh U).1⟩,Y.sim⟩ (by exact fM T.ir hq) hK hX
  ·rcases m x i hg H with rfl|rfl|rfl
   ·exact .inl T.UT
   ·exact .inl T.US
   ·exact .inr ⟨.inr T.Nk,c,by exact aU lN List.lookup_cons_self⟩
  ·rwa[ac Zp.frames,l f1 f2];refine⟨_::l,Around.frames_deeper f1,⟨?_,_,rfl,?_⟩,f2⟩
   ·show d.scope.kind≠ .module
    erw[T.kind];decide
   ·rwa[cy mh,ol es ep t r _,-mh];exact(bN ((S.fresh U).1) ((S.fresh U).2) ⟨ol,t,λ vs q=>bZ Data.ctorIdx (r.symm.trans q) rfl⟩)
  ·rcases m x i hg H with rfl|rfl|rfl
   ·obtain rfl:=an (T.F3.symm.trans H);obtain rfl:=an (an (a1.symm.trans hv));exact(aw u1 (by show List.lookup x [(r,u2),(x,u1)]=some u1;erw[List.lookup_cons,beq_eq_false_iff_ne.mpr T.ne];exact List.lookup_cons_self) (r1.go Y))
   ·obtain rfl:=an (T.F1.symm.trans H);obtain rfl:=an (an (a2.symm.trans hv));exact(aw u2 (by show List.lookup x [(x,u2),(t,u1)]=some u2;exact List.lookup_cons_self) (r2.go Y))
   ·exact uD NameKind.ctorIdx ((show d.scope.names.lookup (Str.ofString "told")=some .local from G).symm.trans T.Nk) rfl
  ·rwa[aK (RG x q e),cH dy];subst cH;subst dy;refine⟨O.free,_,O.cell.keeps fU,λ _ i v _ H hv=>?_⟩;obtain rfl:=an (T.FZ.symm.trans H);obtain rfl:=an (an (a3.symm.trans hv));exact(aw _ rfl (.ref O.told))
end
structure zH(θ:Th)(k:Nat)(g:Fn):Prop where
 at_:∃N mN fI o fd body names,ClsAt θ.base (θ.P.ca k) N mN∧mN "__init__" =some (.ref fI)∧o8 θ fI g o fd body names∧∀vals,vals.length=names.length→∀s:Shared,(∀b o,θ.base.get? b=some o→s.heap.get? b=some o)→BindsTo s fd ⟨vals,[]⟩ (names.zip vals)
structure Tb(θ:Th):Prop where
 fns:∀k g,k≠kG->FF k=some g->FnAt θ (θ.P.fa k) g
 cls:∀k g,CC k=some g->zH θ k g
 tell:∀g,FF kG=some g->∀fd,θ.P.tl fd->∃body n1 n2 i1 i2 j,GZ fd g body n1 n2 i1 i2 j
 kw:∀k x q g,FJ k x=some q->CC k=some g->∃ds es N mN fI o fd body names,et θ.P θ.base [] q.1 ds/\et θ.P θ.base [] q.2 es/\∀u,yf θ k g [] [(x,u)] (ds++u::es) N mN fI o fd body names
section
variable{θ:Th}{A:Around}{f:Fm}{n k:Nat}{ρ:Env}{z z' bI:Z}{a v:V}{u:Value}{X K:Value->Shared->Prop}{L:Addr->Prop}{Q:V->St->Prop}{E:Str->St->Prop}{g:Fn}{vs:List V}{us:List Value}{p pos:Pos}{x' y':Mine.E}{x y:Expr}
theorem sM(W:Wd θ)(Tt:Tb θ)(hS:mE θ n)(U:A.handled=none)(ca:pn θ A (n+1) z)(S:ec θ z)(q:RZ θ z v u)(r:j0 θ z vs us)(h:pw (nj (TI n) FF CC v vs) Q E z.σ)(t:Ends θ eH z (RZ θ) Q K)(Y:dq θ eH z E X):
  mD z.s.heap u/\wpAny (model θ.prog θ.w) A (call u us) K X z.s:=by
 have R:o7 θ A n z:=.of U ca
 induction v using V.casesOn with
 |fn H=>
  obtain rfl:=RV.QK q;have h:(match (if H=kG then none else FF H)with|some i=>pw (iY (TI n) i vs) Q E z.σ|none=>False):=h
  split at h
  ·rename_i i e
   split at e
   ·exact aD (e)
   ·rename_i hk;have hf:=Tt.fns H i hk e;exact nX (id hf.at_) λ o Zc _ _ m _=>⟨.func (S.old _ _ m.at_) m.data,Dm W hS R S hf r h t Y⟩
  ·exact h.elim
 |cls J=>
  obtain rfl:=RV.ya q;have h:(match CC J with|some i=>wp (cY (.inst J [])) (m4 (TI n) i vs Q E) E z.σ|none=>False):=h
  split at h
  ·rename_i g e;obtain ⟨N,mN,fI,o,i,body,G,m,h2,B,h4⟩:=(Tt.cls J g e).at_;refine⟨.cls (m.keeps S.old),zp (hZ h) λ ρ e _=>zy (rest:=us) (kw:=[]) W hS U ca S ⟨m,h2,B,λ x=>h4 _ ?_⟩ r h t Y⟩
   erw[List.length_cons];refine fM (et.length r) (fM (jx B.params) ?_);erw[sO e];rfl
  ·exact h.elim
 |bi b=>obtain rfl:=RV.Ef q;exact⟨by rcases b with ⟨⟩<;> first|exact .builtin _|exact .type _,GW W U h S r t⟩
 |ref d=>obtain ⟨l,i,m,h2,B,h⟩:=h;obtain ⟨ad,rfl,Wj⟩:=RV.gS q;obtain ⟨_,b,c,cc,o,Zc,O⟩:=S.obj _ _ _ m Wj;obtain ⟨body,n1,n2,i1,i2,j,T⟩:=Tt.tell i h2 Zc O.Uh.tl;refine⟨.func O.at_ O.data,?_⟩;rwa[d9 (Bh B),v1 v2 hv,hv];obtain ⟨u1,u2,rfl,r1,r2⟩:=et.mH r;exact Bp W hS R S T O r1 r2 h t Y
 |_=>exact h.elim
theorem gT:∀ {b:List Expr} {c:List Mine.E},dS (dD k f.sc) b=some c->(backTo p (starEach b f.env)).any (·.1)=false
 | [],_,_=>rfl
 |_::_,_,h=>by
  rwa[ac (aE h),_ e h];rwa[ac (bc h),_ d _]
  erw[iy e,List.any_cons,gT d];rfl
theorem gp{M:Program}{w:World}{s:Shared}{v:Value}{c:List (Bool×Sem Value)}{Q:Args->Shared->Prop}(e:c.any (·.1)=false)(h:wpAny (model M w) A (spliced c) (λ vs d=>Q ⟨vs,[]⟩ d) X s):
  wpAny (model M w) A (evalArgs v true c []) Q X s:=by
 induction c with
 |nil=>unfold evalArgs;show wpAny (model M w) A (spliced [] >>= _) Q X s;refine wpAny_bind (wpAny_mono h (λ vs d i=>?_) λ _ _ z=>z);exact wpAny_bind (wpAny_pure (wpAny_holding (wpAny_bind (wpAny_pure (wpAny_bind (wpAny_pure (wpAny_pure i)))))))
 |cons a r=>obtain ⟨b,x⟩:=a;rw[List.any_cons,Bool.or_eq_false_iff]at e;obtain rfl:b=false:=e.1;exact Calls.evalArgs_plain h
theorem GP{l:List Expr}{m:List Mine.E}(W:Wd θ)(J:Tb θ)(j:ew θ n k f)(B:mE θ n)(H:dD k f.sc x=some x')(e:dS (dD k f.sc) l=some m)(w:jY x=none):TE θ (n+1) f (.call x' m) (.Call x l [] pos):=λ c t G d=>
 jD w (j H c.less t (λ v u bI r i o=>kZ (gT e) (gp (gT e) (ly j e (c.less.go i) r (λ vs us O q h rs=>by have N:=i.trans h;exact aK (sM W J B c.st.handled (c.go N).a h.sim (o.go h) rs (lq q) (G.after N) (d.after N.wide).narrow) λ s b=>(bN rfl s b)) (d.after i.wide)))) d)
theorem Cj{q:Expr×Expr}{i:List Expr}(W:Wd θ)(J:ew θ n k f)(w:AN f.sc x i=some q)(U:dD k f.sc q.1=some x')(O:dD k f.sc q.2=some y'):TE θ (n+1) f (.pZ x' y') (.Call x i [] pos):=λ c s H G=>by rwa[aK (fe w),t h];rwa[ac (aE h),r e1 h];rwa[ac (aE h),rs e2 e3];rwa[cO (yc e2),e d dy o];subst dy;obtain rfl:=jJ e3;obtain rfl:=fA e1;rwa[ac (tT t),p Y VW];subst Y;refine jD rfl (nS W c.less VW (λ _ _ T=>T.list) (by decide) ?_);have B:backTo pos (starEach [Expr.Call e [q.1,q.2] [] d] f.env)=[(false,eval (.Call e [q.1,q.2] [] d) f.env)]:=rfl;exact aU B (PyProof.Rows.callWith_type rfl (Calls.evalArgs_plain (Calls.spliced_cons (pF W J o U O c.less s (λ a b bI it oV uP zL l j Jp m o2=>Calls.spliced_nil (w8 c.st.handled m o2 l j.sim Jp (H.after j))) G))))
end
section
variable{θ:Th}{A:Around}{f:Fm}{n k:Nat}{ρ:Env}{z z' bI:Z}{a v:V}{u:Value}{X K:Value->Shared->Prop}{L:Addr->Prop}{Q:V->St->Prop}{E:Str->St->Prop}{g:Fn}{vs:List V}{us:List Value}{p pos:Pos}{x' y':Mine.E}{x y:Expr}
theorem uS(h:dD k b e=some l):attributeBase e o j whole=whole:=by
 induction k using Nat.casesOn with
 |zero=>exact aD (h)
 |succ k=>
  induction e using PySem.Expr.casesOn with
  |Call f m d p=>
   induction f using PySem.Expr.casesOn with
   |Name id q=>
    induction m using List.casesOn with
    |cons=>rfl
    |nil=>
     induction d using List.casesOn with
     |cons=>rfl
     |nil=>
      have h:(match AN b (.Name id q) []with|some _=>_|none=>_)=some l:=h;rw[show AN b (.Name id q) []=none by unfold AN;cases EE b "list" (.Name id q)<;> rfl]at h
      rwa[ac (aE h),i c _]
      induction k using Nat.casesOn with
      |zero=>exact aD (c)
      |succ k=>
       have:=(lX (fe (show pv b id=some i from c)).1).2.2;unfold attributeBase;have e:(id !=("super" :Str))=true:=by simp only[bne,this];rfl
       simp only[e,Bool.true_or,if_true]
   |_=>rfl
  |_=>first|rfl|exact nomatch h
structure MethAt(s:Shared)(u:Value)(m:Nat)(T:String)(nm:Str):Prop where
 ty:s.TypeIs u T
 nd:∀b,u=.ref b->∃ob,s.heap.get? b=some ob/\ob.dict=none
 pl:PlainAttrs T
 sl:Slot T nm (tE m)
 mt:typeOf (.builtin (tE m))=pure (.type "method_descriptor")
theorem Cu{m:Nat}{B:Str}{Q:Unit->St->Prop}(S:ec θ z)(U:RZ θ z a u)(i:nN[m]?= some B)(h:wp (ge a m) Q E z.σ):Q () z.σ/\∃T,MethAt z.s u m T B:=by
 refine bW h λ d Y h=>bW h λ o H h=>gA h λ t cT=>⟨d5 cT,?_⟩;rwa[ac (U.A5 Y),q bw w];subst bw
 induction o using d4.casesOn with
 |list vs=>
  rwa[d9 (S.Hx H (.ref w)),p ws l];obtain rfl:=Value.ref.inj l.u;rwa[aW l.pl,nn r];have G:∀b,Value.ref q=.ref b->∃ob,z.s.heap.get? b=some ob/\ob.dict=none:=λ b e=>by cases e;exact(aw _ r rfl)
  induction m using Nat.casesOn with
  |zero=>obtain rfl:=an (i);exact⟨"list",(aw _ r rfl),G,PySem.F.plainAttrs_list,PySem.F.slot_list_append,PySem.F.type_list_append⟩
  |succ m=>induction m using Nat.casesOn with
   |zero=>obtain rfl:=an (i);exact⟨"list",(aw _ r rfl),G,PySem.F.plainAttrs_list,PySem.F.slot_list_extend,PySem.F.type_list_extend⟩
   |succ m=>exact absurd (of_decide_eq_true (show decide (m+1+1<2)=true from t)) (mF (.n (.j (.a (.a W0 (.c 1)) (.c 1)) (.c 2))) [] (.s 0 (.l [1]) (.l [1])) rfl)
 |dM es=>obtain rfl:m=2:=beq_iff_eq.mp t;rwa[cA (S.obj _ _ _ H w),_ _ J];rwa[ac J,mm O _,-J];obtain rfl:=an (i);exact⟨"dict",O.typeIs,O.noDict,PySem.F.plainAttrs_dict,PySem.F.slot_dict_get,PySem.F.type_dict_get⟩
 |_=>exact bZ Bool.ctorIdx (t) rfl
theorem Fq{q:Str}{b:List Expr}{H:List Mine.E}{G:Pos}{m:Nat}(W:Wd θ)(s:ew θ n k f)(w:dD k f.sc x=some x')(hm:nN.idxOf? q=some m)(t:dS (dD k f.sc) b=some H)(hl:(G.endLine==pos.line)=true)(Y:b.length<3):
  TE θ (n+1) f (.fY x' m H) (.Call (.Attribute x q G) b [] pos):=fun{ρ z Q E K X} c U hK r=>by
 have h:=gT (f:=f) (p:=pos) t;refine wpAny_Call_method_late (uS w) ?_ hl rfl (s w c.less U (λ a u bI e d o=>?_) r)
 ·erw[show(backTo pos (starEach b f.env)).all (λ x=> !x.1)=true from List.all_eq_true.mpr λ x O=>by rw[Bool.eq_false_iff.mpr (List.any_eq_false.mp h x O)];rfl]
  show(true&&true&&decide (b.length+0+0<30))=true
  erw[bq (show b.length+0+0<30 by exact mF (.j (.a (.a W0 (.c 0)) (.c 0)) (.c 30)) [.j W0 (.c 3)] (.l [1,1]) rfl Y)];rfl
 ·rwa[aK (Cu d.sim o (m6 hm) e),e B];rwa[aW B,T M,-B];exact(tX T (tE m) M.pl M.sl M.mt M.ty M.nd (Calls.callWith_builtin h (gp h (ly s t (c.less.go d) e (λ vs us bu J i rs=>zY W J i.sim (o.go i) rs (hK.after (d.trans i))) (r.after d.wide)))))
theorem Nx.adopt(N:Nx θ L z z')(H:z'.own q=none)(J:θ.base.get? q=none)(t:z'.s.heap.get? q=some ob)(lo:Et θ q ob)(hz:z.s.heap.get? q=none)(x:RO θ ⟨z'.φ++[q],de z'.own q z'.σ.length,z'.σ++[o],z'.s⟩ z'.σ.length q o):
  Nx θ L z ⟨z'.φ++[q],de z'.own q z'.σ.length,z'.σ++[o],z'.s⟩/\RZ θ ⟨z'.φ++[q],de z'.own q z'.σ.length,z'.σ++[o],z'.s⟩ (.ref z'.σ.length) (.ref q):=by
 have S:=N.sim;have ext:∀b j,z'.own b=some j->de z'.own q z'.σ.length b=some j:=λ b j=>jZ H b j;refine⟨⟨⟨by show(_++[_]).length=(_++[_]).length;erw[List.length_append,List.length_append,S.len];rfl,λ j G b e f=>?_,S.old,λ b j e=>?_,λ b j e=>?_⟩,N.go.pre.trans (List.prefix_append _ _),λ b i e=>ext b i (N.go.ext b i e),λ b i e Y=>?_,N.go.keep,N.go.there,N.go.tup,N.go.gens,N.go.os⟩,
  .ref (by rw[List.getElem?_append_right (S.len▸Nat.le_refl _),S.len,Nat.sub_self];rfl)⟩
 ·have e:=e;have f:=f;rcases Nat.lt_or_ge j z'.σ.length with l|l
  ·rw[List.getElem?_append_left l]at e;rw[List.getElem?_append_left (S.len▸l)]at f;rwa[aK (S.obj j G b e f),m B];have K:Xu θ z' ⟨z'.φ++[q],de z'.own q z'.σ.length,z'.σ++[o],z'.s⟩ j:=⟨λ _ _ h=>h,List.prefix_append _ _,λ _ _=>rfl,λ b o e h r=>⟨h,je e λ w=>?_⟩,ext⟩
   ·exact⟨ext _ _ m,B.keep K m⟩
   subst w;obtain rfl:=an (t.symm.trans h);rcases r with ⟨d,v,c⟩|⟨vs,_,_,d,c⟩
   ·exact lo.cell v d c
   ·exact lo.word _ _ _ d c
  ·rw[List.getElem?_append_right l]at e;rw[List.getElem?_append_right (S.len▸l),S.len]at f;obtain rfl:j=z'.σ.length:=by
    cases r:j - z'.σ.length with
    |zero=>exact Nat.le_antisymm (Nat.sub_eq_zero_iff_le.mp r) l
    |succ n=>rw[r]at e;cases e
   rw[Nat.sub_self]at e f;obtain rfl:=an (e);obtain rfl:=an (f);exact⟨fX ..,x⟩
 ·cases r:z'.own b with
  |none=>rwa[aK (iP b j r e),_ dy];subst dy;exact J
  |some k=>exact S.lo b k r
 ·cases r:z'.own b with
  |none=>rwa[aK (iP b j r e),_ U];subst U;exact(aw ob t lo.tup)
  |some k=>exact S.there b k r
 ·cases r:z'.own b with
  |none=>rwa[aK (iP b i r Y),_ O];subst O;exact hz
  |some k=>exact N.go.new b k e r
theorem BB(h:TE θ n f x' e):TE θ (n+1) f (.fS w x') (.Dict [some (.Constant (.str w) kk p')] [e] p):=fun{ρ z Q E K X} c hq hK hX=>by
 refine wpAny_Dict_walk (knd:=strKind θ.prog θ.w) rfl rfl (by simp) (by simp) (pairTrees_cons_walk (wpAny_Constant_str ?_));have j:=Heap.get?_none_of_le (h:=z.s.heap) (Nat.le_refl z.s.heap.objs.size);have B:Nx θ eH z (z.to {z.s with heap:=z.s.heap.push {cls:=.type "dict",data:=.dict #[]},toks:=z.s.toks+1}):=Cx.grow c.s _ _;refine h (c.less.go B) hq (λ a u m q2 r ra=>pairTrees_nil_walk ?_) (hX.after B.wide);have H:(z.s.heap.push {cls:=.type "dict",data:=.dict #[]}:Heap).get? z.s.heap.objs.size=some {cls:=.type "dict",data:=.dict #[]}:=Heap.get?_push_size _ rfl;have d:=c.s.fresh j;have G:=r.go.keep _ _ id d.1 H;have XV:=r.go.stays H d.1;refine(cR ([(w,u)]) (bN (by simp [PySem.strKind,Value.isStrOf]) rfl trivial) ?_ (λ Y hm J=>?_))
 ·rwa[iK (Heap.DictOf.new (knd:=strKind θ.prog θ.w) z.s.heap),o es ep d1 d2];obtain rfl:=an (H.symm.trans d1);exact(jR _ es ep G d2)
 ·have EI:=hm;rwa[ig (id EI),od es ep g1 g2 l _];have N3:∀t,Nx θ eH z (m.to {m.s with heap:=Y,toks:=t}):=λ t=>(B.trans r).j9 ⟨λ b o hb e=>(J.2 b hb).trans e,XV,d.2,G,⟨λ _ _ e=>(bZ Data.ctorIdx (e) rfl),λ _ _ _ e=>(bZ Data.ctorIdx (e) rfl),.of (by simp)⟩,rfl,rfl⟩ (.inl j);have tk:dW m.s.heap Y:=λ a i ⟨fc,U,h2,n,O⟩=>(cR fc ((J.2 a λ e=>by subst e;obtain rfl:=an (G.symm.trans U);exact bZ Data.ctorIdx (O) rfl).trans U) h2 ⟨n,O⟩);have N4:=λ t=>(N3 t).adopt (o:=.fS [(w,a)]) (ob:=od) XV d.2 g1 ⟨λ _ _ e=>(bZ Data.ctorIdx (l.symm.trans e) rfl),λ _ _ _ e=>(bZ Data.ctorIdx (l.symm.trans e) rfl),λ _ _ _ e=>(bZ Data.ctorIdx (l.symm.trans e) rfl)⟩ j (aw (valueAt [(w,u)]) EI.mapOf (λ k=>?_))
  ·exact hK _ _ _ (hZ (E:=E) q2) (N4 _).1 (N4 _).2
  ·by_cases q:w=k
   ·subst q;rw[List.find?_cons,beq_self_eq_true];show qU _ (some a) (valueAt [(w,u)] w);exact aU (show valueAt [(w,u)] w=some u by simp [valueAt]) (.some ((ra.mono tk (List.prefix_refl _)).mono (λ _ _ h=>h) (List.prefix_append _ _)))
   ·erw[List.find?_cons,beq_eq_false_iff_ne.mpr q,show valueAt [(w,u)] k=none by simp [valueAt,q]]
    exact .none
end
section
variable{θ:Th}{A:Around}{f:Fm}{n k:Nat}{ρ:Env}{z z' bI:Z}{a v:V}{u:Value}{X K:Value->Shared->Prop}{L:Addr->Prop}{Q:V->St->Prop}{E:Str->St->Prop}{g:Fn}{vs:List V}{us:List Value}{p pos:Pos}{x' y':Mine.E}{x y:Expr}
theorem callWith_kw{M:Program}{w:World}{s:Shared}{D:Addr}{j:List (Option Str×Sem Value)}(i:j.any (·.1.isNone)=false)
  (h:wpAny (model M w) A (evalArgs (.ref D) true [] j) (λ a b=>a.pos=[]/\(∃N H,ClsAt b.heap D N H)/\wpAny (model M w) A (call (.ref D) [] a.kw) K X b) X s):
  wpAny (model M w) A (callWith pos (.ref D) [] [] j) K X s:=by
 unfold callWith;refine wpAny_bind (wpAny_holding (wpAny_mono h (λ a b B=>wpAny_bind (wpAny_standAt ?_)) λ _ _ x=>x));rwa[cA B,Vz G U];try clear B;rwa[d9 G,_ _ e,-G]
 simp only[List.any_nil,Bool.false_or,i,Vz,List.nil_append];have c:∀ {t:Sem Value},wpAny (model M w) A t K X b->wpAny (model M w) A (t >>= λ r=>holding [r] point >>= λ _=>pure r) K X b:=
  λ J=>wpAny_bind (wpAny_mono J (λ r aH O=>wpAny_bind (wpAny_holding (wpAny_point (wpAny_pure O)))) λ _ _ x=>x)
 obtain ⟨o,g,d,t,os⟩:=b;rwa[DN e.obj,nm q bs sn sub Y dd k0 k1 k2 k3 k5 e];have f1:=tc_lookup;have hT:(⟨o,g,d,t,os⟩:Shared).TypeIs (.ref _) "type" :=(aw _ e rfl);refine wpAny_bind (m:=keeperOf _) (wpAny_mono (Q:=λ k l=>k=Keeper.machine/\l=⟨o,g,d,t,os⟩) (E:=X) ?_ (λ k l i=>?_) λ _ _ x=>x)
 ·unfold keeperOf specialOf
  repeat any_goals first|assumption|with_reducible refine wpAny_loadPart_at e ?_|with_reducible refine wpAny_load' e ?_|wp_step
  exact⟨rfl,rfl⟩
 ·rwa[aK i,b7 cH];try clear i;subst b7;subst cH
  exact c U
theorem D3{i:Str}{kp:Pos}{w:Str}{b:Nat}{q:List V×List V}(W:Wd θ)(Tt:Tb θ)(hE:ew θ n k f)(hS:mE θ n)(h0:pv f.sc w=some (.k (.cls b)))(h1:dD k f.sc x=some x')(O:FJ b i=some q):
  TE θ (n+1) f (.sN b q.1 x' q.2) (.Call (.Name w p) [] [⟨some i,x,kp⟩] pos):=fun{ρ z Q E K X} c d hK m=>
 wpAny_Call_Name_kw (yD (n:=n) (E:=E) (Q:=λ v s=>v=.cls b/\s=z.σ) W h0 c ⟨rfl,rfl⟩ (λ v u bI e B U=>by
  obtain ⟨rfl,e⟩:=e;obtain rfl:=RV.ya U;refine callWith_kw rfl (evalArgs_kw_nil rfl (wpAny_evalAll_cons (wpAny_bind (hE h1 (c.less.go B) (by exact aU e d) (λ a u t q2 h ra=>wpAny_bind (wpAny_standAt (wpAny_pure (wpAny_evalAll_nil ?_)))) (m.after B.wide)))));have N:=B.trans h;have d:(match CC b with|some H=>wp (cY (.inst b [])) (m4 (TI n) H (q.1++a::q.2) Q E) E t.σ|none=>False):=lq q2
  generalize l:CC b=Lu;induction Lu with
  |none=>rw[l]at d;exact d.elim
  |some g=>rw[l]at d;rwa[JY (Tt.kw b i q g O l),ds es N' mN fI o H body j r1 r2 G];have J:∀ {v:List V} {x:List Value},et θ.P θ.base [] v x->j0 θ t v x:=λ r=>r.mono (zD h.sim) (List.nil_prefix ..);have Y:j0 θ t (q.1++a::q.2) (ds++u::es):=(J r1).append (.cons ra (J r2));exact(bN rfl (im N' mN ((G u).cls.keeps h.sim.old)) (zy W hS c.st.handled (c.go N).a h.sim (G u) Y d (hK.after N) (m.after N.wide).narrow))) m)
end
noncomputable def LC(C D:Addr)(b:Addr):Prop:=b=C∨b=D
noncomputable def zW:Str->St->Prop:=λ _ _=>False
structure Cq(θ:Th)(f:Fm)(D:Addr)(z:Z)(ρ:Env)(z':Z)(vs:List V):Prop where
 nx:Nx θ (LC f.env.locals D) z z'
 env:d7 θ f ρ z'
 acc:∃ws:List Value,z'.s.heap.PlainList D ws.toArray/\j0 θ z' vs ws
 own:z'.own D=none
noncomputable def qW(θ:Th)(n k:Nat)(f:Fm):Prop:=∀ {e a},dD k f.sc e=some a->TT θ n f a e
section
variable{θ:Th}{A:Around}{f:Fm}{n k:Nat}{ρ dH:Env}{z z' rg:Z}{v:V}{u:Value}{X:Value->Shared->Prop}{L:Addr->Prop}{D it:Addr}{vs o:List V}{s':Shared}{c:yh}
theorem dq.no:dq θ L z zW X:=λ _ _ _ q=>q.elim
theorem Cq.go(c:Cq θ f D z ρ z' vs)(N:Nx θ eH z' rg):Cq θ f D z ρ rg vs:=⟨c.nx.trans N.wide,c.env.go N,c.acc.imp λ _ h=>⟨h.1.imp λ _ e=>N.go.keep _ _ id c.own e,j0.go h.2 N⟩,c.acc.elim λ _ h=>h.1.elim λ _ e=>N.go.stays e c.own⟩
theorem Cq.trans(c:Cq θ f D z ρ z' vs)(y:Cq θ f D z' dH rg o):Cq θ f D z dH rg o:=⟨c.nx.trans y.nx,y.env,y.acc,y.own⟩
theorem Cq.at(c:Cq θ f D z ρ z' vs):Cq θ f D z' ρ z' vs:=⟨.refl c.nx.sim,c.env,c.acc,c.own⟩
theorem Cq.cx(c:Cq θ f D z ρ z' vs)(st:lH θ f)(a:pn θ f.A n z):Cx θ f n ρ z':=⟨st,a.imp λ _=>.go c.nx.go,c.env,c.nx.sim⟩
theorem Cq.ne(c:Cq θ f D z ρ z' vs):D≠f.env.locals:=λ e=>by rwa[ac c.acc,_ a _];rwa[aW a,n h,-a];rwa[ac c.env.ns,_ b _];rwa[cy b,i j l g d _,-b];obtain rfl:=an ((e▸h).symm.trans g);exact bZ Data.ctorIdx (d) rfl
theorem Cq.put(c:Cq θ f D z ρ z' vs)(N:Nx θ (λ b=>b=f.env.locals) z' rg)(e:d7 θ f dH rg):Cq θ f D z dH rg vs:=
 ⟨c.nx.trans ⟨N.sim,N.go.pre,N.go.ext,N.go.new,λ b o l=>N.go.keep b o λ q=>l (.inl q),N.go.there,N.go.tup,N.go.gens,N.go.os⟩,e,c.acc.imp λ _ h=>⟨h.1.imp λ _ e=>N.go.keep _ _ c.ne c.own e,j0.go h.2 N⟩,c.acc.elim λ _ h=>h.1.elim λ _ e=>N.go.stays e c.own⟩
theorem Cq.Iv{o:Obj}{e:Array Value}(c:Cq θ f D z ρ z' vs)(h:z'.s.heap.get? it=some o)(d:o.data=.fields e): ¬ LC f.env.locals D it:=by
 rintro (q|q)
 ·rwa[ac c.env.ns,_ b _];rwa[cy b,l m p i g _,-b];obtain rfl:=an (h.symm.trans (q▸i));exact bZ Data.ctorIdx (d.symm.trans g) rfl
 ·rwa[ac c.acc,_ a _];rwa[aW a,n j,-a];obtain rfl:=an (h.symm.trans (q▸j));exact bZ Data.ctorIdx (d) rfl
theorem Cq.iter(c:Cq θ f D z ρ z' vs)(T:wV θ z' it s')(hz:z.s.heap.get? it=none):Cq θ f D z ρ (z'.to s') vs:=by refine⟨T.nx c.nx hz,T.env c.env,?_,c.own⟩;exact cO T.at_ λ ob a t d=>c.acc.imp λ _ h=>⟨h.1.imp λ _ e=>t.gc e λ q=>(by subst q;exact(bZ Data.ctorIdx (d) rfl)),h.2.mono t.tup (List.prefix_refl _)⟩
theorem Cq.push{K:Value→Shared→Prop}{M:Around}(a:θ.base.get? D=none)(c:Cq θ f D z ρ z' vs)(r:RZ θ z' v u)(x:vs.length≤1000000)(t:∀i,Cq θ f D z ρ (z'.to i) (vs++[v])→K .none i):wpAny (model θ.prog θ.w) M (call (.builtin "list.append") [.ref D,u]) K X z'.s:=by rwa[ac c.acc,j d h];refine wpAny_list_append_plain d (λ B l m=>t _ ?_) (xm x (et.length h));rwa[aW d,n y,-d];rwa[aW (id l),p g];have T:jG θ z' D _ {z'.s with heap:=B}:=⟨λ b o a e=>(m.2 b a).trans e,c.own,a,y,⟨λ _ _ e=>(bZ Data.ctorIdx (e) rfl),λ _ _ _ e=>(bZ Data.ctorIdx (e) rfl),.of (by simp)⟩,rfl,rfl⟩;exact⟨c.nx.j9 T (.inr ⟨.inr rfl,_,g,λ _ q=>bZ Data.ctorIdx (q) rfl⟩),c.env.j9 T c.ne.symm (λ _ q=>bZ Data.ctorIdx (q) rfl),(aw (j++[u]) ⟨p,by rw[List.push_toArray]at g;exact g⟩ ((et.append h (.one r)).mono T.tup (List.prefix_refl _))),c.own⟩
noncomputable def fm(d:List Expr)(a:PySem.Env)(b:Bool):Sem Bool:=forIn d b λ c r=>if r=true then do let e ← isTrue c a (eval c a);pure (ForInStep.yield e)else pure (ForInStep.yield r)
theorem kF(c:Expr)(d:List Expr)(b:Bool):fm (c::d) a b=(if b=true then isTrue c a (eval c a) >>= λ e=>fm d a e else fm d a b):=by unfold fm;rw[List.forIn_cons];rcases b with ⟨⟩<;> simp
theorem oo{M:Program}{w:World}{b:PySem.Env}{s:Shared}{K:Bool->Shared->Prop}(h:K false s):∀a:List Expr,wpAny (model M w) A (fm a b false) K X s
 | []=>wpAny_pure h
 |c::a=>by rw[kF,if_neg (by decide)];exact oo h a
theorem rP(g:qW θ n k f):∀ {a:List Expr} {i:List Mine.E} {z:Z} {Q:Bool->St->Prop} {K:Bool->Shared->Prop},dS (dD k f.sc) a=some i->Cx θ f n ρ z->pw (iX (TI n) ρ i) Q zW z.σ->(∀b z',Q b z'.σ->Nx θ eH z z'->K b z'.s)->wpAny (model θ.prog θ.w) f.A (fm a f.env true) K X z.s
 | [],_,z,_,_,h,c,e,d=>by obtain rfl:=an (h);exact wpAny_pure (d true z e (.refl c.s))
 |t::a,_,_,_,_,h,c,e,d=>by rwa[ac (aE h),G r h];rwa[ac (bc h),l p x];subst x;rw[kF,if_pos rfl];exact wpAny_bind (g r (E:=zW) (Q₂:=λ s=>_) c e ⟨λ j q N=>rP g p (c.go N) q λ b y m B=>d b y m (N.trans B),λ j q N=>oo (d false j q N) a⟩ dq.no)
noncomputable def fj(h:Expr)(d:List Comprehension)(e:Scope)(j:Pos)(b:Nat)(i:Value)(a:PySem.Env):Sem Unit:=
 match d[b+1]? with
 |some g=>do
  let x ← eval g.iter a
  standAt g.iter.pos
  let x ← if g.is_async !=0 then foldedIterable g.iter x else foldedSetIterable g.iter a x
  let _ ← runOwn (.compStart (.ListComp h d e j) (b+1) (← holding [x] (if g.is_async !=0 then asyncIter x else pyIter x)) i a) a
 |none=>do let _ ← call (.builtin "list.append") [i,← eval h a]
noncomputable def kD(t:Expr)(b:List Expr)(step:Sem Unit)(it v:Value)(a:PySem.Env):Sem Unit:=
 letOwnedTupleGo t it v >>= λ _=>assign t a v >>= λ _=>fm b a true >>= λ d=>if d=true then step else pure ()
theorem wj(h:Expr)(b:List Comprehension)(d:Scope)(g:Pos)(a:Nat)(it i:Value)(p:b[a]?= some ⟨t,iter,j,0⟩):
  compTurn (.ListComp h b d g) a it i e=(standAt iter.pos >>= λ _=>pyNext it >>= λ r=>match r with
   |none=>pure (.done .next)
   |some v=>kD t j (fj h b d g a i e) it v e >>= λ _=>again (.compLoop (.ListComp h b d g) a it i e)):=by
 unfold compTurn kD fj fm;simp only[p];refine congrArg (λ f=>standAt iter.pos >>= f) (funext λ _=>congrArg (λ f=>pyNext it >>= f) (funext λ r=>?_))
 induction r with
 |none=>rfl
 |some v=>
  simp only[LawfulMonad.bind_assoc];refine congrArg (λ f=>letOwnedTupleGo t it v >>= f) (funext λ _=>congrArg (λ f=>assign t e v >>= f) (funext λ _=>congrArg (λ f=>fm j e true >>= f) (funext λ m=>?_)))
  cases m
  ·simp
  ·simp only[if_true]
   cases b[a+1]? with
   |none=>simp only[LawfulMonad.bind_assoc,LawfulMonad.pure_bind]
   |some l=>
    simp only[LawfulMonad.bind_assoc];refine congrArg (λ f=>eval l.iter e >>= f) (funext λ x=>congrArg (λ f=>standAt l.iter.pos >>= f) (funext λ _=>?_))
    split<;> simp only[LawfulMonad.bind_assoc,LawfulMonad.pure_bind]
noncomputable def Q3(θ:Th)(f:Fm)(D:Addr)(z:Z)(vs:List V)(Q:List V×Env->St->Prop)(K:Unit->Shared->Prop):Prop:=∀o ρ z',Q (o,ρ) z'.σ->Cq θ f D z ρ z' (vs++o)->K () z'.s
noncomputable def KC(vs:List V)(Q:List V×Env->St->Prop):Prop:=∀o ρ s,Q (o,ρ) s->(vs++o).length<=1000000
noncomputable def Ex(θ:Th)(n:Nat)(f:Fm)(D:Addr)(step:Sem Unit)(a:Env->PT (List V×Env)):Prop:=
 ∀ {ρ z vs Q K X},pn θ f.A n z->Cq θ f D z ρ z vs->pw (a ρ) Q zW z.σ->KC vs Q->Q3 θ f D z vs Q K->wpAny (model θ.prog θ.w) f.A step K X z.s
theorem DE(st:lH θ f)(x:θ.base.get? D=none)(w:TE θ n f j g)(t:d[b+1]?= none):Ex θ n f D (fj g d e h b (.ref D) f.env) (gq (TI n) j []):=
 fun{ρ z vs Q K X} y c p s B=>by
 unfold fj;exact aU t (wpAny_bind (w (c.cx st y) p (λ v u G q N r=>wpAny_bind ((c.go N).push x r (by have:=s _ _ _ q;rw[List.length_append]at this;exact iA (.i W0 (.c 1000000)) [.i (.a W0 W1) (.c 1000000)] (.l [1,1]) rfl this) λ H m=>wpAny_pure (B [v] ρ (G.to H) q m))) dq.no))
theorem zM{t:Expr}{i:T}{a:List Expr}{m:List Mine.E}{step:Sem Unit}{j:Env->PT (List V×Env)}{Q:List V×Env->St->Prop}{K:Unit->Shared->Prop}{ob:Obj}{B:Array Value}(st:lH θ f)(J:∀y,f.sc.lookup y≠some .cell)(hT:qW θ n k f)(Y:rj f.sc t=some i)(Oq:dS (dD k f.sc) a=some m)
  (em:Ex θ n f D step j) (g:pn θ f.A n z) (p:Cq θ f D z ρ z vs) (G:RZ θ z v u) (U:Sf z.s.heap it ob B) (hq:pw (uQ (TI n) j i m v ρ) Q zW z.σ) (hl:KC vs Q) (l:Q3 θ f D z vs Q K):wpAny (model θ.prog θ.w) f.A (kD t a step (.ref it) u f.env) K X z.s:=by
 unfold kD;refine wpAny_bind (sq U (wpAny_bind (fk (L:=λ b=>b=f.env.locals) (E:=zW) ⟨rfl,λ y _ h _=>absurd h (J y)⟩ (p.cx st g) Y G hq λ H ay q N e=>?_)));have r:=p.put N e;refine wpAny_bind (rP (z:=z.to ay) hT Oq (r.cx st g) q λ b bu q N2=>?_);have d:=r.go N2
 induction b with
 |false=>rw[if_neg (by decide)];exact wpAny_pure (l [] H bu q (by rw[List.append_nil];exact d))
 |true=>exact aU (if_pos rfl) (em (g.imp λ _=>.go d.nx.go) d.at q hl λ o O x q AG=>l o O x q (d.trans AG))
end
section
variable{θ:Th}{A:Around}{f:Fm}{n k:Nat}{ρ dH:Env}{z z' rg:Z}{v:V}{u:Value}{X:Value->Shared->Prop}{L:Addr->Prop}{D it:Addr}{vs o:List V}{s':Shared}{c:yh}
 {elt t iter:Expr} {mq:Mine.E} {t':T} {gens:List Comprehension} {ifs:List Expr} {dQ:List Mine.E} {scope:Scope} {pos:Pos} {depth:Nat} {kf:Env->PT (List V×Env)} {R:Result->Shared->Prop} {Q:List V×Env->St->Prop}
theorem rG{M:Program}{w:World}{b:PySem.Env}{s:Shared}{it i:Value}(B:g[a]?= some ⟨t,iter,m,0⟩)
  (h:wpAny (model M w) A (pyNext it) (λ r p=>match r with
   |none=>R (.ok .next) p
   |some v=>wpAny (model M w) A (kD t m (fj l g d j a i b) it v b) (λ _ y=>codeAny (model M w) A (.compLoop (.ListComp l g d j) a it i b) R y)
    (notedBy (model M w) A b λ e s'=>R (.error e) s') p) (notedBy (model M w) A b λ e s'=>R (.error e) s') s):
  codeAny (model M w) A (.compLoop (.ListComp l g d j) a it i b) R s:=by
 refine codeAny_of_tree ?_;show wpAny _ A ((compTurn (.ListComp l g d j) a it i b).onRaise (λ x=>do noteFrame x b;theTreesLotGoes x)) _ _ s;refine wpAny_noted ?_
 erw[wj _ _ _ _ _ _ _ B]
 refine wpAny_bind (wpAny_standAt (wpAny_bind (wpAny_mono h (λ r p q=>?_) λ _ _ z=>z)))
 induction r with
 |none=>exact wpAny_pure q
 |some v=>exact wpAny_bind (wpAny_mono q (λ _ y G=>wpAny_pure ⟨rfl,G⟩) λ _ _ z=>z)
noncomputable def Er(J:I)(e:Env->PT (List V×Env))(t:T)(a:List Mine.E)(Q:List V×Env->St->Prop):Nat->yh->Env->St->Prop
 |k,.li d i=>λ ρ b=>pw (iL J e t a d k i ρ) Q zW b
 |_,.ra y k=>λ ρ b=>pw (oO J e t a ((u4 y k).map .int) ρ) Q zW b
theorem zN{J:I}{K:Option Value->Shared->Prop}(G:A.handled=none)(S:ec θ z)(a:Er J h g m Q k c ρ z.σ)(q:iW z it c)(O:z.own it=none/\θ.base.get? it=none)
  (H:∀s',Q ([],ρ) z.σ->wV θ z it s'->K none s')
  (B:∀t p v u s',left t p<left k c->pw (uQ J h g m v ρ) (λ x s=>Er J h g m (λ y s=>Q (x.1++y.1,y.2) s) t p x.2 s) zW z.σ->RZ θ (z.to s') v u->wV θ z it s'->iW (z.to s') it p->K (some u) s'):wpAny (model θ.prog θ.w) A (pyNext (.ref it)) K X z.s:=by
 induction c with
 |li d i=>
  induction k with
  |zero=>exact a.elim
  |succ k=>
   rwa[ac a,vs U b,-a];refine yC G S q O U (λ e s' T=>H s' ?_ T) λ v u s' e r T I=>B k (.li d (i+1)) v u s' (Nat.lt_succ_self k) ?_ r T I
   ·rw[e]at b;exact b
   ·rw[e]at b;exact b
 |ra y j=>
  refine yB G q O (λ e s' T=>H s' ?_ T) λ l u s' e r T I=>B k (.ra (y+1) l) (.int y) u s' ?_ ?_ r T I
  ·subst e;exact a
  ·subst e;exact Nat.lt_succ_self l
  ·subst e;have a:pw (oO J h g m ((u4 y (l+1)).map .int) ρ) Q zW z.σ:=a;rw[rS]at a;exact a
theorem Gm(e:∀ρ,lB (l ρ))(m:KC vs Q):KC vs λ x s=>Er (TI n) l b g (λ y s=>Q (x.1++y.1,y.2) s) k c x.2 s:=λ o ρ s h=>by
 have a:∀ (y:List V×Env) s',Q (o++y.1,y.2) s'->(vs++o).length<=1000000:=λ y s' q=>by have:=m _ _ _ q;rw[← List.append_assoc,List.length_append]at this;exact Nat.le_trans (Nat.le_add_right _ _) this
 induction c with
 |li d i=>exact(pK (dL n).1 e b g d k i ρ s).el h (λ y s' q _=>a y s' q) λ _ _ h=>h.elim
 |ra y j=>exact(nL (dL n).1 e b g _ ρ s).el h (λ y s' q _=>a y s' q) λ _ _ h=>h.elim
structure yi(θ:Th)(n k:Nat)(f:Fm)(D:Addr)(depth:Nat)(gens:List Comprehension)(t iter:Expr)(t':T)(ifs:List Expr)(dQ:List Mine.E)(step:Sem Unit)(kf:Env->PT (List V×Env)):Prop where
 st:lH θ f
 nc:∀y,f.sc.lookup y≠some .cell
 db:θ.base.get? D=none
 hT:qW θ n k f
 ht:rj f.sc t=some t'
 Oq:dS (dD k f.sc) ifs=some dQ
 hg:gens[depth]?= some ⟨t,iter,ifs,0⟩
 ok:∀ρ,lB (kf ρ)
 em:Ex θ n f D step kf
theorem si(O:yi θ n k f D a b t iter t' ifs dQ (fj y b d l a (.ref D) f.env) kf)(Y:pn θ f.A n z)(U:θ.base.get? it=none)(hz:z.s.heap.get? it=none):
  ∀ (m:Nat) {j:Nat} {c:yh} {ρ:Env} {z':Z} {vs:List V} {Q:List V×Env->St->Prop},left j c<m->Er (TI n) kf t' dQ Q j c ρ z'.σ->Cq θ f D z ρ z' vs->iW z' it c->z'.own it=none->KC vs Q->(∀o ρ G,Q (o,ρ) G.σ->Cq θ f D z ρ G (vs++o)->R (.ok .next) G.s)->
   codeAny (model θ.prog θ.w) f.A (.compLoop (.ListComp y b d l) a (.ref it) (.ref D) f.env) R z'.s
 |0,_,_,_,_,_,_,h,_,_,_,_,_,_=>nomatch h
 |m+1,j,c,ρ,z',vs,Q,hm,hr,B,qZ,x,J,hR=>by
  refine rG O.hg (zN O.st.handled B.nx.sim hr qZ ⟨x,U⟩ (λ H q T=>hR [] ρ (z'.to H) q (by rw[List.append_nil];exact B.iter T hz)) λ j' c' v u H lt q r T I=>?_);rwa[d9 I.obj,ob xs g];have e:=B.iter T hz;rwa[zM (z:=z'.to H) O.st O.nc O.hT O.ht O.Oq O.em (Y.imp λ _=>.go e.nx.go) e.at r g q (Gm O.ok J),o G7 zI Ib i];have nl:=e.Iv g.at_ g.data;exact si O Y U hz m (Nat.lt_of_lt_of_le lt (Nat.le_of_lt_succ hm)) Ib (e.trans i) (I.keep i.nx.go.pre λ p HX NC=>i.nx.go.keep it p nl x NC.at_) (i.nx.go.stays g.at_ x)
   (λ p dH s q=>by rw[List.append_assoc];exact J _ _ _ q) λ p dH q9 q WN=>hR _ dH q9 q (by rw[← List.append_assoc];exact WN)
theorem rF{M:Program}{w:World}{e:PySem.Env}{s:Shared}{it g:Value}(r:d[a]?= some ⟨t,iter,q,0⟩)(l:codeAny (model M w) A (.compLoop (.ListComp j d b i) a it g e) R s)
  (h:wpAny (model M w) A (pyIter it) (λ m s'=>m=it/\s'=s) (notedBy (model M w) A e λ x s'=>R (.error x) s') s):
  codeAny (model M w) A (.compStart (.ListComp j d b i) a it g e) R s:=by
 refine codeAny_of_tree ?_;show wpAny _ A ((compStart (.ListComp j d b i) a it g e).onRaise (λ x=>do noteFrame x e;standAt theWindowsPlace)) _ _ s;refine wpAny_notedAt ?_;unfold compStart;have y:=r
 erw[y]
 show wpAny _ _ (ask >>= _) _ _ s;refine wpAny_bind (wpAny_askSetting (wpAny_ite ?_))
 split
 ·first
   |exact wpAny_bind (wpAny_pure (wpAny_pure (And.intro rfl l)))
   |exact wpAny_pure (And.intro rfl l)
 ·refine wpAny_bind (wpAny_rule ?_);show wpAny _ _ (standAt iter.pos >>= _) _ _ s;refine wpAny_bind (wpAny_standAt (wpAny_bind (wpAny_mono h (λ m s' p=>?_) λ _ _ x=>x)));rwa[aK p,B G];try clear p;subst B;subst G
  exact wpAny_pure (And.intro rfl l)
theorem xu{M:Program}{w:World}{K:Value->Shared->Prop}(h:iW z it c)(a:K (.ref it) z.s):wpAny (model M w) A (pyIter (.ref it)) K X z.s:=by
 induction c with
 |li d i=>obtain ⟨q,_,h⟩:=h;exact wpAny_pyIter_listiter h a
 |ra y j=>exact wpAny_pyIter_rangeiter h a
noncomputable def KI(J:I)(d:Env->PT (List V×Env))(t:T)(a:List Mine.E)(Q:List V×Env->St->Prop)(ρ:Env)(c:yh)(b:St):Prop:=∃j,Er J d t a Q j c ρ b
theorem qH(O:yi θ n k f D depth gens t iter i m B (fj e gens a b depth (.ref D) f.env) l)(x:pn θ f.A n z)(r:θ.base.get? it=none)(hz:z.s.heap.get? it=none)(d:KI (TI n) l i B Q ρ c z'.σ)(G:Cq θ f D z ρ z' vs)(h:iW z' it c)(p:z'.own it=none)(q:KC vs Q)
  (y:∀o ρ g,Q (o,ρ) g.σ->Cq θ f D z ρ g (vs++o)->R (.ok .next) g.s):codeAny (model θ.prog θ.w) f.A (.compStart (.ListComp e gens a b) depth (.ref it) (.ref D) f.env) R z'.s:=by
 obtain ⟨j,d⟩:=d;exact rF O.hg (si O x r hz (left j c+1) (Nat.lt_succ_self _) d G h p q y) (xu h ⟨rfl,rfl⟩)
theorem E3(b:pw (rk J ρ a) (Ae J i g m dH Q zW) zW z.σ):Kw J ρ (KI J i g m Q dH) zW z.σ a:=by
 induction a with
 |inl e=>exact(aw _ b (λ v s h=>by
   induction v using V.casesOn with
   |ref d=>rwa[ac h,vs l j,-h];exact(c9 d vs rfl l ⟨_,j⟩)
   |_=>exact h.elim))
 |inr r=>exact(aw _ b (λ q s h=>⟨0,h⟩))
theorem wa(W:Wd θ)(Y:ew θ n k f)(O:yi θ n k f D (a+1) g uP p y Ve dQ (fj l g d i (a+1) (.ref D) f.env) G)(h:lc k f.sc p m):
  Ex θ n f D (fj l g d i a (.ref D) f.env) (λ ρ Q X s=>pw (rk (TI n) ρ m) (Ae (TI n) G y dQ ρ Q X) X s):=fun{ρ z vs Q K X} t c H J U=>by
 unfold fj
 erw[O.hg]
 have j:=sZ (K:=λ it x=>wpAny (model θ.prog θ.w) f.A (runOwn (.compStart (.ListComp l g d i) (a+1) it (.ref D) f.env) f.env) (λ _=>K ()) X x) (X:=X) W Y h (c.cx O.st t) (E3 H) (λ cu bI it q N I o b e=>wpAny_runOwn (qH (R:=λ r s'=>match r with| .ok _=>K () s'| .error e=>_) O t b e q (c.go N) I o J λ o ρ bu q B=>U o ρ bu q B)) dq.no
 refine wpAny_bind (wpAny_mono j (λ v ay ee=>wpAny_bind (wpAny_standAt ?_)) λ _ _ z=>z);show wpAny _ _ (foldedSetIterable p f.env v >>= _) _ _ ay;rw[xO h];exact wpAny_bind (wpAny_pure (wpAny_bind (wpAny_holding (wpAny_mono ee (λ it x CR=>wpAny_bind (wpAny_mono CR (λ _ _ z=>wpAny_pure z) λ _ _ z=>z)) λ _ _ z=>z))))
end
section
variable{θ:Th}{A:Around}{f:Fm}{n k:Nat}{ρ dH:Env}{z z' rg:Z}{v:V}{u:Value}{X:Value->Shared->Prop}{L:Addr->Prop}{C D it:Addr}{vs o:List V}{s':Shared}{c:yh}{env:PySem.Env}{scope:Scope}{eo:List (Option Nat)}
noncomputable def rH(env:PySem.Env):List (Str×NameKind)->List (Str×Addr)->List (Str×Addr)
 | [],a=>a
 |(x,k)::r,a=>rH env r (if k==.free then(x,(env.cells.lookup x).getD 0)::a else a)
theorem GN(h:∀x,(x,NameKind.free)∈scope.names->∃c,env.cells.lookup x=some c):closureFor scope env=pure (rH env scope.names []):=by
 unfold closureFor;have g:∀ (b:List (Str×NameKind)) (d:List (Str×Addr)),(∀x,(x,NameKind.free)∈b->∃c,env.cells.lookup x=some c)->
   (forIn b d fun(x:Str×NameKind) (r:List (Str×Addr))=>(match x with
    |(name,i)=>if(i==.free)=true then do let a ← cellOf env name;pure (ForInStep.yield ((name,a)::r))else pure (ForInStep.yield r):Sem (ForInStep (List (Str×Addr)))))=pure (rH env b d):=by
  intro b
  induction b with
  |nil=>intro d _;rfl
  |cons e r s=>
   intro d j;obtain ⟨x,p⟩:=e;rw[List.forIn_cons];have m:=λ d=>s d λ y t=>j y (.tail _ t);unfold rH;by_cases q:(p==NameKind.free)=true
   ·obtain rfl:=beq_iff_eq.mp q;rwa[aW (j x (.head _)),c l]
    erw[l,if_pos q]
    simp only[if_pos q,show cellOf env x=pure c by unfold cellOf;exact aU l rfl,LawfulMonad.pure_bind];exact m _
   ·erw[if_neg q]
    simp only[if_neg q,LawfulMonad.pure_bind];exact m _
 have e:=g scope.names [] h;show(forIn scope.names ([]:List (Str×Addr)) _ >>= λ r=>pure r)=_;exact aU e rfl
theorem oQ:∀ (a:List (Str×NameKind)) (d:List (Str×Addr)) {q:Addr},(rH env a d).lookup y=some q->((y,NameKind.free)∈a/\q=(env.cells.lookup y).getD 0)∨d.lookup y=some q
 | [],d,_,h=>.inr h
 |(x,g)::r,d,q,h=>by
  rcases oQ r _ h with b|b
  ·exact .inl ⟨.tail _ b.1,b.2⟩
  ·by_cases e:(g==NameKind.free)=true
   ·rw[if_pos e,List.lookup_cons]at b;obtain rfl:=beq_iff_eq.mp e
    split at b
    ·rename_i w;obtain rfl:=beq_iff_eq.mp w;exact .inl ⟨.head _,(an b).symm⟩
    ·exact .inr b
   ·rw[if_neg e]at b;exact .inr b
theorem wn:∀ (a:List (Str×NameKind)) (b:List (Str×Addr)),((y,NameKind.free)∈a∨∃q,b.lookup y=some q)->∃q,(rH env a b).lookup y=some q
 | [],b,h=>h.resolve_left λ h=>bQ (h)
 |(x,d)::r,b,h=>wn r _ (by
  by_cases e:(d==NameKind.free)=true
  ·erw[if_pos e,List.lookup_cons]
   split
   ·exact .inr ⟨_,rfl⟩
   ·rename_i w;refine h.imp (λ h=>?_) id;rcases List.mem_cons.mp h with h|h
    ·cases h;exact bZ Bool.ctorIdx (w.symm.trans (beq_self_eq_true _)) rfl
    ·exact h
  ·erw[if_neg e]
   refine h.imp (λ h=>?_) id;rcases List.mem_cons.mp h with h|h
   ·cases h;exact absurd rfl e
   ·exact h)
theorem pD:(relabel scope env).names.lookup x=(scope.names.lookup x).map λ k=>if(k==.free&&env.scope.kind==.function&&env.kindOf x==some .cell)then .cell else k:=by
 unfold relabel;show(List.map _ scope.names).lookup x=_
 induction scope.names with
 |nil=>rfl
 |cons e r g=>
  obtain ⟨y,d⟩:=e
  erw[List.map_cons]
  by_cases z:x=y
  ·subst z
   dsimp only
   by_cases a:(d==NameKind.free&&env.scope.kind==ScopeKind.function&&env.kindOf x==some NameKind.cell)=true
   ·erw[if_pos a];simp only[List.lookup_cons,beq_self_eq_true,Option.map_some,if_pos a]
   ·erw[if_neg a];simp only[List.lookup_cons,beq_self_eq_true,Option.map_some,if_neg a]
  ·have b:=beq_eq_false_iff_ne.mpr z
   dsimp only
   split<;>(simp only[List.lookup_cons,b];exact g)
structure K8(scope:Scope):Prop where
 kind:scope.kind=.function
 kinds:∀x,x∈scope.names->(x.2=.local∨x.2=.free∨x.2=.globalImplicit)/\scope.names.lookup x.1=some x.2
theorem AH(h:DX scope=true):K8 scope:=by rwa[aK (bV h),g e];refine⟨beq_iff_eq.mp g,λ x b=>?_⟩;rwa[aK (bV (List.all_eq_true.mp e x b)),a d];rw[Bool.or_eq_true,Bool.or_eq_true,beq_iff_eq,beq_iff_eq,beq_iff_eq]at a;exact⟨a.elim (λ h=>h.imp id .inl) λ h=>.inr (.inr h),beq_iff_eq.mp d⟩
theorem vy{α d:Type}{f:α->Option d}:∀ {l:List α} {r:List d} {i:Nat} {a:α},dS f l=some r->l[i]?= some a->∃b,r[i]?= some b/\f a=some b
 |_::l,_,0,_,h,e=>by rwa[ac (aE h),b j h];rwa[ac (bc h),_ g m];subst m;obtain rfl:=an (e);exact(aw b rfl j)
 |_::l,_,i+1,_,h,e=>by rwa[ac (aE h),b j h];rwa[ac (bc h),_ g p];subst p;exact vy (l:=l) (i:=i) g e
structure XB(f:Fm)(eo:List (Option Nat))(names:List (Str×NameKind))(x:Str)(j:Nat)(c:Addr):Prop where
 cell:f.sc.lookup x=some .cell
 idx:cC f.sc x=some j
 kind:f.env.kindOf x=some .cell
 at_:f.env.cells.lookup x=some c
 cap:∀i,cC names x=some i->eo[i]?= some (some j)
theorem uv(h:dS (qN f.sc) scope.names=some eo)(g:K8 scope){x:Str}{i:Nat}(j:cC scope.names x=some i):∃k b,scope.names.lookup x=some k/\eo[i]?= some b/\qN f.sc (x,k)=some b:=by have a:=tZ j;rw[cg]at a;rwa[ac (Option.map_eq_some_iff.mp a),e d p];rwa[ac (vy h d),b m l,p];exact(c9 e.2 b ((g.kinds e (List.mem_of_getElem? d)).2) m l)
theorem ni(st:lH θ f)(g:dS (qN f.sc) scope.names=some eo)(d:K8 scope)(h:(x,NameKind.free)∈scope.names):∃j c,XB f eo scope.names x j c:=by
 rwa[aW (pT g _ h),b m];rwa[aK (fe (show oB (f.sc.lookup x==some .cell) ((cC f.sc x).map some)=some b from m)),a t];have a:=beq_iff_eq.mp a;rwa[ac (bc t),j p G];subst G;have l:=st.kinds x _ a (by decide);rwa[aK ((st.how x j (by unfold cG;exact aU a rfl) p).resolve_left λ e=>uD NameKind.ctorIdx (l.symm.trans e) rfl),_ q];rwa[aW q,c s,-q];refine(im j c ⟨a,p,l,s,λ i r=>?_⟩);rwa[cX (uv (f:=f) g d r),k H B y w];obtain rfl:=an (B.symm.trans (d.kinds _ h).2)
 erw[y,an (w.symm.trans m)];rfl
noncomputable def jB(f:Fm)(scope:Scope)(C:Addr):Fm:=⟨f.A,compEnvC scope (rH f.env scope.names []) C f.env,scope.names⟩
theorem we:(jB f scope C).env.kindOf x=(scope.names.lookup x).map λ k=>if(k==.free&&f.env.scope.kind==.function&&f.env.kindOf x==some .cell)then .cell else k:=pD
theorem ur(st:lH θ f)(d:dS (qN f.sc) scope.names=some eo)(b:K8 scope)(h:(jB f scope C).env.cells.lookup x=some q):∃j,XB f eo scope.names x j q:=by
 rcases oQ _ _ h with ⟨e,a⟩|h
 ·rwa[d9 (ni st d b e),j c k];rw[k.at_]at a;subst a;exact⟨j,k⟩
 ·exact aD (h)
theorem DW(c:Cx θ f n ρ z)(d:K8 scope)(p:dS (qN f.sc) scope.names=some eo)(w:z.s.heap.Ns C (λ x=>([]:List (Str×Value)).reverse.lookup x))(B:z.own C=none/\θ.base.get? C=none):
  lH θ (jB f scope C)/\(∀y,scope.names.lookup y≠some .cell)/\d7 θ (jB f scope C) (lS ρ eo) z:=by
 have t:∀y,scope.names.lookup y≠some .cell:=λ y e=>by rcases (d.kinds _ (mem_of_lookup e)).1 with h|h|h<;> exact bZ NameKind.ctorIdx (h) rfl
 have g:∀x k,scope.names.lookup x=some k->k≠ .free->(jB f scope C).env.kindOf x=some k:=λ x k e h=>by rw[we,e,Option.map_some,beq_eq_false_iff_ne.mpr h];rfl
 have O:∀x j q,XB f eo scope.names x j q->scope.names.lookup x=some .free->(jB f scope C).env.kindOf x=some .cell:=λ x j q h e=>by rw[we,e,Option.map_some,h.kind,c.st.kind];rfl
 refine(bN ⟨d.kind,g,c.st.globals,c.st.builtins,λ x i a r=>?_,B.2,λ x q e=>absurd e (t x),λ x y q ex ey=>?_,c.st.handled⟩ t ⟨(aw _ w (λ x hx i v a r m=>?_)),λ x q e=>?_,?_,B.1⟩)
 ·rwa[cX (uv (f:=f) p d r),k b l J H];rcases (d.kinds _ (mem_of_lookup l)).1 with h|h|h<;>(have h:k=_:=h;subst h)
  ·exact .inl (g x _ l (by decide))
  ·exact d9 (ni c.st p d (mem_of_lookup l)) λ j q K=>.inr ⟨.inl (O x j q K l),wn _ _ (.inl (mem_of_lookup l))⟩
  ·have a:cG scope.names x=false:=a;unfold cG at a;rw[l]at a;exact absurd a (by decide)
 ·exact aW (ur c.st p d ex) λ _ Y=>aW (ur c.st p d ey) λ _ U=>c.st.apart x y q Y.at_ U.at_
 ·rwa[cX (uv (f:=f) p d r),k b l J H];rcases (d.kinds _ (mem_of_lookup l)).1 with h|h|h<;>(have h:k=_:=h;subst h)
  ·obtain rfl:none=b:=an (show some none=some b from H);have m:(eo.map _)[i]?= some (some v):=m;rw[cg,J]at m;exact uD Option.ctorIdx (m) rfl
  ·exact d9 (ni c.st p d (mem_of_lookup l)) λ j q K=>uD NameKind.ctorIdx (hx.symm.trans (O x j q K l)) rfl
  ·have a:cG scope.names x=false:=a;unfold cG at a;rw[l]at a;exact absurd a (by decide)
 ·rwa[aW (ur c.st p d e),j K];rwa[aK (c.e.cells x q K.at_),h1 G];rwa[ac G,Q h2 h3,-G];refine⟨h1,Q,h2,λ w i v a r m=>h3 (λ e=>uD NameKind.ctorIdx (K.kind.symm.trans e) rfl) j v (by unfold cG;exact aU K.cell rfl) K.idx ?_⟩;have m:(eo.map _)[i]?= some (some v):=m;rw[cg,K.cap i r]at m;exact qq (an m)
 ·show(eo.map _).length=_;rw[bo,jx p];rfl
end
section
variable{θ:Th}{A:Around}{f:Fm}{n k:Nat}{ρ dH:Env}{z z' rg:Z}{v:V}{u:Value}{X K:Value->Shared->Prop}{L:Addr->Prop}{C D it:Addr}{vs o:List V}{s':Shared}{c:yh}{env:PySem.Env}{scope:Scope}{eo:List (Option Nat)}
 {elt:Expr} {mq:Mine.E} {gens:List Comprehension} {pos:Pos} {depth:Nat}
inductive K9(k:Nat)(ns:List (Str×NameKind)):List Comprehension->List (T×o6×List Mine.E)->Prop
 |nil:K9 k ns [] []
 |cons {t iter:Expr} {ifs:List Expr} {r:List Comprehension} {t':T} {oE:o6} {dQ:List Mine.E} {r':List (T×o6×List Mine.E)}:lc k ns iter oE->rj ns t=some t'->dS (dD k ns) ifs=some dQ->K9 k ns r r'->
   K9 k ns (⟨t,iter,ifs,0⟩::r) ((t',oE,dQ)::r')
theorem Dg(h:yq (λ m e=>dD k m e) l ns g=some a):∃t iter b d i j,g=⟨t,iter,b,0⟩/\a=(d,i,j)/\lc k l iter i/\rj ns t=some d/\dS (dD k ns) b=some j:=by obtain ⟨t,iter,b,x⟩:=g;rwa[aK (fe h),s h];rwa[ac (aE h),i r h];rwa[ac (aE h),d q h];rwa[ac (bc h),j p w];subst w;obtain rfl:x=0:=beq_iff_eq.mp s;exact(I9 t iter b d i j rfl rfl (Bx r) q p)
theorem DZ:∀ {r:List Comprehension} {b:List (T×o6×List Mine.E)},dS (yq (λ d e=>dD k d e) ns ns) r=some b->K9 k ns r b
 | [],_,h=>by obtain rfl:=an (h);exact .nil
 |g::r,_,h=>by rwa[ac (aE h),a q h];rwa[ac (bc h),b p x];subst x;rwa[DH (Dg q),t iter i y B G w s m l j];subst w;subst s;exact .cons m l j (DZ p)
theorem zv{α:Type}{l:List α}{n:Nat}{r:List α}(h:l.drop n=r):l[n]?= r[0]? :=by rw[← h,List.getElem?_drop,Nat.add_zero]
theorem DF(W:Wd θ)(g:ew θ n k f)(q:qW θ n k f)(st:lH θ f)(j:∀y,f.sc.lookup y≠some .cell)(e:θ.base.get? D=none)(p:dD k f.sc d=some l):
  ∀ {r:List Comprehension} {b:List (T×o6×List Mine.E)} {depth:Nat},K9 k f.sc r b->gens.drop (depth+1)=r->Ex θ n f D (fj d gens scope i depth (.ref D) f.env) (gq (TI n) l b):=by
 intro r b depth h
 induction h generalizing depth with
 |nil=>exact λ a=>DE st e (g p) (zv a)
 |cons w t s _ m=>exact λ a=>wa W g ⟨st,j,e,q,t,s,zv a,pL (dL n).1 _,m (by exact fM List.tail_drop (aU a rfl))⟩ w
structure Ey(k:Nat)(sc:List (Str×NameKind))(elt:Expr)(gens:List Comprehension)(scope:Scope)(eo:List (Option Nat))(mq:Mine.E)(t iter:Expr)(ifs:List Expr)(r:List Comprehension)(t':T)(oE:o6)(dQ:List Mine.E)(r':List (T×o6×List Mine.E)):Prop where
 gens:gens=⟨t,iter,ifs,0⟩::r
 eo:dS (qN sc) scope.names=some eo
 ok:K8 scope
 src:lc k sc iter oE
 AU:rj scope.names t=some t'
 ifs:dS (dD k scope.names) ifs=some dQ
 elt:dD k scope.names elt=some mq
 rest:K9 k scope.names r r'
theorem zx(h:py (λ p e=>dD k p e) p q d scope=some e'):∃eo w t iter i r j l m s,e'=.comp eo w ((j,l,m)::s)/\Ey k p q d scope eo w t iter i r j l m s:=by
 unfold py at h
 induction d using List.casesOn with
 |nil=>exact aD (h)
 |cons g r=>rwa[aK (fe h),U h];rwa[ac (aE h),eo Q h];rwa[ac (aE h),a O h];rwa[ac (aE h),b J h];rwa[ac (bc h),x H eK];subst eK;rwa[DH (Dg O),t iter i j l m fO Y G B y];subst fO;subst Y;exact(FY eo x t iter i r j l m b rfl ⟨rfl,Q,AH U,G,B,y,H,DZ J⟩)
theorem Gn{Q:V->St->Prop}{E:Str->St->Prop}:KC [] (tO Q E):=λ _ _ _ h=>mZ h λ a _=>gV a
theorem sL{t iter:Expr}{l:List Expr}{r:List Comprehension}{t':T}{oE:o6}{dQ:List Mine.E}{r':List (T×o6×List Mine.E)}{use:Option (Value->Sem Unit)}{Q:V->St->Prop}{E:Str->St->Prop}(W:Wd θ)(hE:ew θ n k f)(kN:∀C,ew θ n k (jB f scope C))(zn:∀C,qW θ n k (jB f scope C))
  (O:Ey k f.sc elt j scope eo mq t iter l r t' oE dQ r') (c:Cx θ f n ρ z) (hq:pw (rk (TI n) ρ oE) (vH (TI n) mq r' t' dQ (lS ρ eo) Q E) E z.σ) (hX:dq θ (Loc f.env) z E X)
  (hK:∀C D i vs dH,hU vs=true->Q (.ref i.σ.length) (i.σ++[.list vs])->z.s.heap.get? C=none->z.s.heap.get? D=none->C≠D->θ.base.get? D=none->θ.base.get? C=none->Cq θ (jB f scope C) D z dH i vs->compPost (model θ.prog θ.w) f.A X use K (.ref D) C (.ok .next) i.s):
  wpAny (model θ.prog θ.w) f.A (comprehension (.ListComp elt j scope pos) scope f.env (firstIterPos j pos) (newList []) (firstAsync j) (firstIter j f.env) use) K X z.s:=by
 obtain ⟨rfl,kr,p,NS,ht,Oq,V4,Ap⟩:=O;have sA:Kw (TI n) ρ (KI (TI n) (gq (TI n) mq r') t' dQ (tO Q E) (lS ρ eo)) E z.σ oE:=by
  cases oE with
  |inl e=>exact(aw _ hq (λ v s h=>by
    induction v using V.casesOn with
    |ref d=>rwa[ac h,vs h1 h2,-h];exact(c9 d vs rfl h1 ⟨_,h2⟩)
    |_=>exact h.elim))
  |inr r=>exact(aw _ hq (λ q s h=>⟨0,h⟩))
 refine wpAny_comprehension_free (g:=⟨t,iter,l,0⟩) (gs:=r) rfl (λ y=>xO NS y) (GN λ x J=>?_) p.kind (λ x J e=>by erw[(p.kinds x J).2,e];rfl) (sZ W hE NS c sA (λ cu i it q N I o b e=>?_) hX)
 ·exact d9 (ni c.st kr p J) λ _ q K=>⟨q,K.at_⟩
 ·refine wpAny_newObj_type (wpAny_newFunctionEnv (λ x J e=>?_) (by intro y hy;simp at hy) (λ U B Y=>?_) p.kind)
  ·rcases (p.kinds x J).1 with h|h|h<;> exact bZ NameKind.ctorIdx (e.symm.trans h) rfl
  ·have B:=B;obtain ⟨m,RT⟩:∃m,m=i.s.heap.push {cls:=.type "list",dict:=none,data:=.seq ([]:List Value).toArray}:=⟨_,rfl⟩
   dsimp only at B Y ⊢
   rw[← RT]at B Y ⊢;have hC:m.objs.size=i.s.heap.objs.size+1:=by rw[RT,Heap.size_push]
   have YS:i.s.heap.objs.size≠m.objs.size:=by exact aU hC (Nat.ne_of_lt (Nat.lt_succ_self _))
   have G:∀b o,i.s.heap.get? b=some o->U.get? b=some o:=λ b o e=>Y.extBut b o (by exact aU hC (Nat.ne_of_lt (Nat.lt_succ_of_lt (Heap.lt_size e)))) (Heap.get?_push_of_some _ (RT▸Heap.get?_push_of_some _ e))
   have kM:U.PlainList i.s.heap.objs.size #[]:=⟨_,Y.extBut _ _ YS (Heap.get?_push_of_some _ (RT▸Heap.get?_push_size _ rfl))⟩;have H:i.s.heap.get? i.s.heap.objs.size=none:=Heap.get?_none_of_le (Nat.le_refl _);have nC:i.s.heap.get? m.objs.size=none:=Heap.get?_none_of_le (by exact aU hC (Nat.le_succ _));have N3:Nx θ eH i (i.to {i.s with heap:=U,toks:=i.s.toks+([]:List (Str×Value)).length}):=N.sim.grown (s':={i.s with heap:=U,toks:=i.s.toks+([]:List (Str×Value)).length}) G rfl rfl;rwa[cA (DW (C:=m.objs.size) ((c.go N).go N3) p kr B (N.sim.fresh nC)),wL XZ WK];have cq:Cq θ (jB f scope m.objs.size) i.s.heap.objs.size z (lS ρ eo) _ []:=⟨(N.trans N3).wide,WK,(aw ([]) kM .nil),(N.sim.fresh H).1⟩;rwa[d9 I.obj,ob xs io];have I3:iW _ it cu:=I.keep N3.go.pre λ o' HX NC=>G _ _ NC.at_;exact qH (f:=jB f scope m.objs.size) (gens:=⟨t,iter,l,0⟩::r) (depth:=0) (z':=i.to {i.s with heap:=U,toks:=i.s.toks+([]:List (Str×Value)).length}) ⟨wL,XZ,(N.sim.fresh H).2,zn _,ht,Oq,rfl,pL (dL n).1 r',DF W (kN _) (zn _) wL XZ (N.sim.fresh H).2 (gens:=⟨t,iter,l,0⟩::r) (depth:=0) V4 Ap rfl⟩ c.a b e q cq I3 o Gn λ o' dH q9 q4 c4=>mZ q4 λ hf cT=>hK m.objs.size i.s.heap.objs.size q9 o' dH hf cT (N.wX nC) (N.wX H) YS.symm (N.sim.fresh H).2 (N.sim.fresh nC).2 c4
theorem qG(a:Cq θ (jB f scope C) D z dH z' vs)(m:θ.base.get? D=none)(p:z.s.heap.get? C=none)(g:z.s.heap.get? D=none)(l:hU vs=true):
  Nx θ L z ⟨z'.φ++[D],de z'.own D z'.σ.length,z'.σ++[.list vs],z'.s⟩/\RZ θ ⟨z'.φ++[D],de z'.own D z'.σ.length,z'.σ++[.list vs],z'.s⟩ (.ref z'.σ.length) (.ref D):=by
 rwa[ac a.acc,j d q];rwa[aW d,n i,-d];have N:=a.nx.adopt (o:=.list vs) a.own m i ⟨λ _ _ e=>(bZ Data.ctorIdx (e) rfl),λ _ _ _ e=>(bZ Data.ctorIdx (e) rfl),.of (by simp)⟩ g ⟨gV l,j,⟨n,i⟩,et.mono (λ _ _ h=>h) (List.prefix_append _ _) q⟩;exact⟨N.1.shrink λ b h=>h.elim (λ e=>e▸p) λ e=>e▸g,N.2⟩
theorem zw(d:Cq θ (jB f scope C) D z dH z' vs):∃m o,z'.s.heap.Ns C m/\z'.s.heap.get? C=some o/\Et θ C o/\(∀v,o.data≠ .cell v)/\z'.own C=none:=by exact ac d.env.ns λ m b _=>cy (id b) λ g i j h a r=>(fN m g b h ⟨λ _ _ e=>(bZ Data.ctorIdx (a.symm.trans e) rfl),λ _ _ _ e=>(bZ Data.ctorIdx (a.symm.trans e) rfl),λ _ _ _ e=>(bZ Data.ctorIdx (a.symm.trans e) rfl)⟩ (λ _ e=>(bZ Data.ctorIdx (a.symm.trans e) rfl)) d.env.pU)
theorem GD{m:Mine.E}(W:Wd θ)(j:∀f,ew θ n k f)(hT:∀f,qW θ n k f)(h:py (λ w e=>dD k w e) f.sc i d scope=some m):TE θ (n+1) f m (.ListComp i d scope x):=fun{ρ z Q E K X} c hq hK hX=>by rwa[uk (zx h),eo mq t iter J r t' oE dQ r' Y O];subst Y;rw[eval_ListComp];rwa[sL W (j f) (λ C=>j _) (λ C=>hT _) O c.less hq hX,C D a vs dH hf cT l hD U g Wg p];rwa[cv (zw p),H y G RE lo nf q];rwa[aK (qG (L:=eH) p g l hD hf),N r];refine(aw H G (λ h' B=>?_));have T:jG θ ⟨a.φ++[D],de a.own D a.σ.length,a.σ++[.list vs],a.s⟩ C y {a.s with heap:=h'}:=⟨λ b o g e=>(B.2 b g).trans e,je q U,Wg,RE,lo,rfl,rfl⟩;exact hK _ _ _ cT (N.j9 T (.inl l)) (r.mono T.tup (List.prefix_refl _))
end
noncomputable def gw(θ:Th):Prop:=∀ {f:Fm} {n k:Nat} {w:Str} {e:Expr} {e':Mine.E} {g d:Nat} {c b a gP pos:Pos},A9 f→ew θ n k f→dD k f.sc e=some e'→cG f.sc "AdaRaise" =true→
 nk θ (n+1) f (.raise w e') (.Raise (some (.Call (.Name "AdaRaise" c) [.Constant (.str w) g b,.Constant (.int 0) d a,e] [] gP)) none pos)
section
variable{θ:Th}{A:Around}{f:Fm}{n k:Nat}{ρ dH:Env}{z z' rg:Z}{L:Addr->Prop}{C:Addr}{p pos gP:Pos}{scope:Scope}{elt:Expr}{gens:List Comprehension}{x:Expr}{e' x':Mine.E}
theorem Ax(e:d7 θ f ρ z)(h:z.s.heap.get? C=none): ¬ Loc f.env C:=by
 rintro (q|⟨x,_,q⟩)
 ·rwa[ac e.ns,_ b _];rwa[cy b,i m o d l _,-b,q];exact aD (h.symm.trans d)
 ·rwa[aK (e.cells x C q),_ c];rwa[ac c,v a _];try clear c;rwa[ac a,j g r,-a]
  exact aD (h.symm.trans g)
theorem s9{t:Expr}{l:T}(W:Wd θ)(hE:ew θ (n+1) (k+1) f)(kN:∀f,ew θ n k f)(zn:∀f,qW θ n k f)(h1:dD (k+1) f.sc (.ListComp elt gens scope gP)=some e')(g:rj f.sc t=some l):
  nk θ (n+2) f (.a l e') (.Assign [t] (.ListComp elt gens scope gP) pos):=fun{ρ z Q E K X} c J hK Y=>by
 by_cases h:swapsWith (.ListComp elt gens scope gP) (some t) pos.line f.env=pure false
 ·refine gF h (lV (by cases jF t<;> rfl) g) (pR g) ?_
  induction l with
  |one i=>exact hE h1 c.less J (λ a u bI H j G=>fk c.st.wr (Q:=λ dH=>Q (.next,dH)) (E:=E) (c.go j) g G (pO H) λ dH B q N e=>hK _ _ (bI.to B) _ q (j.wide.trans N) e .next) Y
  |m is=>exact hE h1 c.less J (λ a u bI H j G=>fk c.st.wr (Q:=λ dH=>Q (.next,dH)) (E:=E) (c.go j) g G H λ dH B q N e=>hK _ _ (bI.to B) _ q (j.wide.trans N) e .next) Y
 ·have g:=g;unfold rj at g;generalize ha:jF t=Ls;induction Ls with
  |some ts=>(refine d9 (wy ha) λ _ _ dy=>?_;subst dy);exact absurd rfl h
  |none=>
   rw[ha]at g;(refine ac (bc g) λ i hi eK=>?_;subst eK);(refine cX (wY hi) λ y p fO _ _=>?_;subst fO);have Vp:swapsWith (.ListComp elt gens scope gP) (some (.Name y p)) pos.line f.env=pure true:=by
    have e:swapsWith (.ListComp elt gens scope gP) (some (.Name y p)) pos.line f.env=pure (f.env.blockKind==.function&&f.env.kindOf y==some .local&&p.line==gP.line&& !(scope.names.any fun(n,k)=>n==y&& (k==.local || k==.cell))):=rfl;rw[e]at h ⊢;generalize w:(f.env.blockKind==.function&&f.env.kindOf y==some .local&&p.line==gP.line&& !(scope.names.any fun(n,k)=>n==y&& (k==.local || k==.cell)))=Lr;induction Lr with
    |true=>rfl
    |false=>rw[w]at h;exact absurd rfl h
   refine aU (exec_Assign_Name_used _ _ _ _ Vp) ?_;refine wpAny_bind (wpAny_standAt (wpAny_bind ?_));show wpAny _ f.A (do let _ ← comprehension (.ListComp elt gens scope gP) scope f.env (firstIterPos gens gP) (newList []) (firstAsync gens) (firstIter gens f.env) (some (assign (.Name y p) f.env))) _ _ z.s;(refine uk (zx (show py (λ sc e=>dD k sc e) f.sc elt gens scope=some e' from h1)) λ eo mq t iter ifs r l oE dQ r' gU O=>?_;subst gU);refine wpAny_bind (sL W (kN f) (λ C=>kN _) (λ C=>zn _) O c.less.less J Y λ C D d v dH hf cT hC hD iI U Wg cq=>?_);refine cv (zw cq) λ m' oC mh RE lo nf xG=>?_;refine aK (qG (L:=eH) cq U hC hD hf) λ N r=>?_;have nl:=Ax c.e hC;have HA:de d.own D d.σ.length C=none:=je xG iI;refine fk (z:=⟨d.φ++[D],de d.own D d.σ.length,d.σ++[.list v],d.s⟩) c.st.wr (Q:=λ dH=>Q (.next,dH)) (E:=E) (c.go N) g r (pO cT) λ lI aH q N2 e2=>?_;have hk:=N2.go.keep C _ nl HA RE;refine(aw m' (mh.at λ o e=>by obtain rfl:=an (RE.symm.trans e);exact hk) (λ h' nz=>wpAny_pure (wpAny_pure ?_)));have T:jG θ ((⟨d.φ++[D],de d.own D d.σ.length,d.σ++[.list v],d.s⟩:Z).to aH) C oC {aH with heap:=h'}:=⟨λ b o U e=>(nz.2 b U).trans e,HA,Wg,hk,lo,rfl,rfl⟩;refine hK _ _ (Z.to ⟨d.φ++[D],de d.own D d.σ.length,d.σ++[.list v],d.s⟩ _) .next q ((N.wide.trans N2).j9 T (.inl hC)) (e2.j9 T (λ w=>nl (.inl w.symm)) nf) .next
noncomputable def KH(θ:Th)(n:Nat)(f:Fm)(e':Mine.E)(e:Expr):Prop:=TE θ n f e' e/\TT θ n f e' e
theorem n5(a:isTrue x f.env (eval x f.env)=(do let v ← eval x f.env;standAt x.pos;holding [v] (truthy v)))(h:TE θ n f x' x):KH θ n f x' x:=⟨h,BM a h⟩
theorem J2(h:Hb d=some e'):TE θ (n+1) f e' (.Constant d e p):=fun{_ z _ _ _ _} c a b _=>by
 rcases d with ⟨⟩<;> first|cases h;done|cases h
 ·exact wpAny_Constant_none (bP (t:=z.s.toks) b c.s a .none)
 ·exact wpAny_Constant_bool (bP (t:=z.s.toks) b c.s a (.bool _))
 ·exact wpAny_Constant_int (bP b c.s a (.int _ _))
 ·exact wpAny_Constant_str (bP b c.s a (.str _ _))
theorem vw(h:dS g l=some r)(e:one r=some q):∃x,l=[x]/\g x=some q:=by
 obtain rfl:=fA e
 induction l with
 |nil=>exact uD List.ctorIdx (h) rfl
 |cons x l=>
  rwa[ac (aE h),y c h];rwa[ac (bc h),d b a]
  cases a
  induction l with
  |nil=>exact(aw x rfl c)
  |cons _ _=>exact absurd (jx b) (λ h=>nomatch h)
theorem vv(h:dS g l=some r)(e:yn r=some q):∃x y,l=[x,y]/\g x=some q.1/\g y=some q.2:=by
 obtain rfl:=jJ e
 induction l with
 |nil=>exact uD List.ctorIdx (h) rfl
 |cons x l=>
  rwa[ac (aE h),y j h];rwa[ac (bc h),m i d]
  cases d
  rwa[ac (vw i rfl),a b c];subst b;exact(c9 x a rfl j c)
theorem sR(h:jY e=some q):e=.Attribute q.1 q.2.1 q.2.2:=by rcases e with ⟨⟩<;> first|obtain rfl:=an (h);exact rfl|exact aD (h)
theorem yb(h:pj e=some q):∃p,e=.Slice q.1 q.2.1 q.2.2 p:=by rcases e with ⟨⟩<;> first|obtain rfl:=an (h);exact⟨_,rfl⟩|exact aD (h)
theorem mx(h:pk e=some c):∃a p,e=.Constant c a p:=by rcases e with ⟨⟩<;> first|obtain rfl:=an (h);exact(im _ _ rfl)|exact aD (h)
theorem zB(h:Kf c=some s):c=.str s:=by rcases c with ⟨⟩<;> first|obtain rfl:=an (h);rfl|exact aD (h)
theorem GR(h:Qw c=some i):c=.int i:=by rcases c with ⟨⟩<;> first|obtain rfl:=an (h);rfl|exact aD (h)
theorem Ej(h:HL v=some k):v=.cls k:=by rcases v with ⟨⟩<;> first|obtain rfl:=an (h);rfl|exact aD (h)
theorem BN(h:dD k a e=some e')(o v:Value):subscripted e false o v=operate [o,v] (getItem o v):=by
 induction k with
 |zero=>exact aD (h)
 |succ k=>rcases e with ⟨⟩<;> first|rfl|exact aD (h)
theorem GA(i:ew θ n k f)(h:Bk (dD k f.sc) b a=some e'):TE θ (n+1) f e' (.Dict b a p):=by
 induction b with
 |nil=>induction a with
  |nil=>obtain rfl:=an (h);exact Gz
  |cons _ _=>exact aD (h)
 |cons o r=>
  rwa[ac (aE (show(one (o::r)).bind _=some e' from h)),y s h];rwa[ac (aE h),e g h];rwa[ac (aE h),c q h];rwa[ac (aE h),x m h];rwa[ac (aE h),v l h];rwa[ac (bc h),u j d];subst d
  erw[fA s,fA l,g]
  rwa[d9 (mx q),B w t];subst t;obtain rfl:=zB m;exact BB (i j)
theorem LJ(b:ew θ n k f)(e:dD k f.sc a=some r)(j:pj i=some q)(h:LD (dD k f.sc) r q=some e'):TE θ (n+1) f e' (.Subscript a i p):=by
 rwa[aW (yb j),t m];subst m;obtain ⟨lo,d,st⟩:=q
 induction st with
 |some _=>exact aD (h)
 |none=>induction lo with
  |some x=>induction d with
   |some _=>exact aD (h)
   |none=>rwa[ac (bc h),x' c o];subst o;exact E5 (b e) (b c)
  |none=>rwa[ac (aE h),y g h];rwa[ac (bc h),s c l];subst l;obtain rfl:d=some y:=g;exact E6 (b e) (b c)
theorem Nw(W:Wd θ)(O:Tb θ)(l:ew θ n k f)(j:mE θ n)(h:LF (dD k f.sc) f.sc g H d=some e'):TE θ (n+1) f e' (.Call g H d p):=by
 rwa[aK (fe h),G h];rwa[ac (aE h),q B h];rwa[ac (aE h),y w h];rwa[aK (fe h),a h];rwa[ac (aE h),v u h];rwa[ac (aE h),c t h];rwa[ac (aE h),b s h];rwa[ac (aE h),r o h];rwa[ac (bc h),x m i];subst i;obtain rfl:=Ej t;rwa[aW (lA w),U e];subst e;obtain ⟨J,Q,Y⟩:=q;obtain rfl:J=some b:=s
 erw[List.isEmpty_iff.mp G,fA B]
 refine D3 W O l j ?_ m o;unfold pv
 erw[(bV a).1,(bV a).2,u];rfl
theorem GQ(W:Wd θ)(G:Tb θ)(l:ew θ n k f)(w:mE θ n)(h:wZ (dD k f.sc) f.sc g i p=some e'):TE θ (n+1) f e' (.Call g i [] p):=by
 unfold wZ at h;generalize e:jY g=H;induction H with
 |some q=>rw[e]at h;refine aK (fe h) λ r h=>?_;refine ac (aE h) λ o d h=>?_;refine ac (aE h) λ m c h=>?_;(refine ac (bc h) λ s y v=>?_;subst v);obtain rfl:=sR e;exact Fq W l d c y (bV r).1 (of_decide_eq_true (bV r).2)
 |none=>
  rw[e]at h;generalize j:AN f.sc g i=J;induction J with
  |some q=>simp only[j]at h;refine @ac _ _ _ _ (aE h) λ a d h=>?_;(refine @ac _ _ _ _ (bc h) λ b c u=>?_;subst u);exact @Cj θ f n k p a b g q i W l j d c
  |none=>simp only[j]at h;refine @ac _ _ _ _ (aE h) λ B d h=>?_;(refine @ac _ _ _ _ (bc h) λ s c t=>?_;subst t);exact @GP θ f n k p B g i s W G l w d c e
theorem J9(W:Wd θ)(c:ew θ n k f)(g:dD k f.sc a=some B)(m:dS (dD k f.sc) w=some G)(h:Bl B ops G=some e'):KH θ (n+1) f e' (.Compare a ops w p):=by
 unfold Bl at h;generalize l:one ops=H;induction H with
 |some o=>rw[l]at h;rwa[ac (bc h),y j v];subst v;rwa[ac (vw m j),b u e];subst u;exact aU (fA l) ⟨J8 W (lm e _) (c g) (c e),J7 W (lm e _) (c g) (c e)⟩
 |none=>rw[l]at h;rwa[ac (aE h),q j h];rwa[ac (bc h),y e t];subst t;rwa[cX (vv m e),b d s r i];subst s;exact aU (jJ j) ⟨GJ W (lm i _) (c g) (c r) (c i),GI W (lm i _) (c g) (c r) (c i)⟩
theorem zs(W:Wd θ)(G:Tb θ)(w:∀k f,ew θ n k f)(u:∀k f,qW θ n k f)(v:mE θ n)(h:dD k f.sc e=some e'):KH θ (n+1) f e' e:=by
 induction k with
 |zero=>exact aD (h)
 |succ k=>
 have c:ew θ n k f:=w k f;have l:qW θ n k f:=u k f
 induction e using PySem.Expr.casesOn with
 |Name y p=>exact n5 rfl (yD W h)
 |Constant WO kk p=>exact n5 rfl (J2 h)
 |BinOp x o y p=>rwa[aK (fe h),_ h];rwa[ac (aE h),x' b h];rwa[ac (bc h),H d J];subst J;exact n5 rfl (Kg (c b) (c d))
 |UnaryOp o x p=>
  rwa[ac (aE h),x' b h];rcases o with ⟨⟩<;> first|cases h;done|cases h
  ·exact⟨Iu (c b),It (l b)⟩
  ·exact n5 rfl (Iz (c b))
 |BoolOp o B p=>
  rwa[ac (bc h),q U JO];subst JO;rwa[ac (aE U),r b d];rwa[cX (vv b d),x y JN m s];subst JN
  induction o with
  |And=>exact⟨Ko (c m) (c s),Kn (l m) (l s)⟩
  |Or=>exact⟨LU (c m) (c s),LS (l m) (l s)⟩
 |Compare a ops bs p=>exact ac (aE h) λ Y b h=>ac (aE h) λ ZA d h=>J9 W c b d h
 |IfExp x y z p=>rwa[ac (aE h),x' b h];rwa[ac (aE h),H d h];rwa[ac (bc h),z' m JM];subst JM;exact⟨I5 (l b) (c d) (c m),ite_tt (l b) (l d) (l m)⟩
 |Tuple B q p=>rwa[ac (bc h),O b JL];subst JL;exact n5 rfl (HY c b)
 |List B p=>rwa[ac (bc h),O b JK];subst JK;exact n5 rfl (ID c b)
 |Dict ks vs p=>exact n5 rfl (GA c h)
 |Subscript a i p=>
  rwa[ac (aE h),Y b h];generalize t:pj i=Ln;induction Ln with
  |some q=>have h:=h;rw[t]at h;exact n5 rfl (LJ c b t h)
  |none=>have h:=h;rw[t]at h;rwa[ac (bc h),i' d JJ];subst JJ;exact n5 rfl (Jd W (BN d) (c b) (c d))
 |Attribute x nm p=>rwa[ac (aE h),x' b h];rwa[ac (bc h),j d JI];subst JI;exact n5 rfl (GX W (λ _=>uS b) d (c b))
 |Call g as Q p=>
  induction Q with
  |nil=>exact n5 rfl (GQ W G c v h)
  |cons q r=>exact n5 rfl (Nw W G c v h)
 |ListComp elt gens scope p=>exact n5 rfl (GD W (w k) (u k) h)
 |_=>exact aD (h)
end
section
variable{θ:Th}{f:Fm}{n k:Nat}{st:Stmt}{p:Pos}{e t x:Expr}{e':Mine.E}{s':S}
theorem w6:nk θ n f .bad st:=fun{_ _ _ _ _ _} _ a _ _=>by
 induction n with
 |zero=>exact a.elim
 |succ n=>exact a.elim
theorem uV{o:Option S}(h:∀s',o=some s'->nk θ n f s' st):nk θ n f (oS o) st:=by
 induction o with
 |none=>exact w6
 |some s'=>exact h s' rfl
theorem wz(h:wA e=some q):∃p,e=.Subscript q.1 q.2 p:=by rcases e with ⟨⟩<;> first|obtain rfl:=an (h);exact⟨_,rfl⟩|exact aD (h)
theorem not_true(h:(!b)=true):b=false:=by rcases b with ⟨⟩<;> first|rfl|exact bZ Bool.ctorIdx (h) rfl
theorem Kl(W:Wd θ)(A:∀k f,ew θ n k f)(B:∀ {m e' d c b o},dD k f.sc (.ListComp d c b o)=some e'->rj f.sc t=some m->nk θ (n+1) f (.a m e') (.Assign [t] (.ListComp d c b o) p))(h:Bm (dD k f.sc) f.sc t e=some s'):
  nk θ (n+1) f s' (.Assign [t] e p):=by
 have r:ew θ n k f:=A k f;unfold Bm at h;generalize s:wA t=O;induction O with
 |some q=>simp only[s]at h;refine @aK _ _ _ (fe h) λ l h=>?_;refine @ac _ _ _ _ (aE h) λ a j h=>?_;refine @ac _ _ _ _ (aE h) λ i w h=>?_;(refine @ac _ _ _ _ (bc h) λ v g J=>?_;subst J);(refine @aW _ _ _ (wz s) λ z L=>?_;subst L);exact @u5 θ f n k _ _ _ z p _ _ _ r (not_true l) g j w
 |none=>
  simp only[s]at h;generalize u:jY t=Q;induction Q with
  |some q=>simp only[u]at h;refine @aK _ _ _ (fe h) λ l h=>?_;refine @ac _ _ _ _ (aE h) λ a j h=>?_;refine @ac _ _ _ _ (aE h) λ i w h=>?_;(refine @ac _ _ _ _ (bc h) λ v g H=>?_;subst H);obtain rfl:=sR u;exact @th θ f n k _ _ q.2.2 p _ _ _ _ W r (not_true l) g j w
  |none=>
   simp only[u]at h;refine @aK _ _ _ (fe h) λ l h=>?_;refine @ac _ _ _ _ (aE h) λ m j h=>?_;(refine @ac _ _ _ _ (bc h) λ v g G=>?_;subst G);generalize y:jQ e=U;induction U with
   |false=>exact @BE θ f n k _ p _ _ _ r y (not_true l) g j
   |true=>induction e using PySem.Expr.casesOn with
    |ListComp d c b o=>exact @B m v d c b o g j
    |_=>exact nomatch y
theorem Kj(W:Wd θ)(m:ew θ n k f){l:Operator}(h:Hc (dD k f.sc) f.sc t l e=some s'):nk θ (n+1) f s' (.AugAssign t l e p):=by
 refine @aK _ _ _ (fe h) λ s h=>?_;obtain rfl:=beq_iff_eq.mp s;generalize d:wA t=z;induction z with
 |some q=>simp only[d]at h;refine @ac _ _ _ _ (aE h) λ a j h=>?_;refine @ac _ _ _ _ (aE h) λ i b h=>?_;(refine @ac _ _ _ _ (bc h) λ v g y=>?_;subst y);(refine @aW _ _ _ (wz d) λ c w=>?_;subst w);exact @BD θ f n k _ _ _ c p _ _ _ W m j b g
 |none=>simp only[d]at h;refine @ac _ _ _ _ (aE h) λ x j h=>?_;refine @aK _ _ _ (fe h) λ b h=>?_;refine @ac _ _ _ _ (aE h) λ i g h=>?_;(refine @ac _ _ _ _ (bc h) λ v r u=>?_;subst u);(refine @aW _ _ _ (lA j) λ c o=>?_;subst o);exact @zS θ f n k _ _ c p _ _ m (bV b).1 (bV b).2 g r
theorem BJ(U:gw θ)(l:A9 f)(m:ew θ n k f)(h:yp (dD k f.sc) f.sc e=some s'):nk θ (n+1) f s' (.Raise (some e) none p):=by
 refine @ac _ _ _ _ (aE h) λ O B h=>?_
 induction O with
 |nil=>exact aD (h)
 |cons a r=>refine @ac _ _ _ _ (aE h) λ q A h=>?_;refine @ac _ _ _ _ (aE h) λ c z h=>?_;refine @ac _ _ _ _ (aE h) λ w y h=>?_;refine @ac _ _ _ _ (aE h) λ d v h=>?_;refine @ac _ _ _ _ (aE h) λ i u h=>?_;refine @aK _ _ _ (fe h) λ s h=>?_;(refine @ac _ _ _ _ (bc h) λ Y o b=>?_;subst b);(refine @cO _ _ _ _ _ (yc B) λ g p' L j=>?_;subst L);(refine @ac _ _ _ _ (tT j) λ np G Q=>?_;subst G);(refine @d9 _ _ _ _ (mx z) λ k1 p1 H=>?_;subst H);obtain rfl:=zB y;obtain rfl:=jJ A;refine @d9 _ _ _ _ (mx v) λ k2 p2 J=>?_;obtain rfl:=GR u;obtain rfl:=beq_iff_eq.mp s;rw[J];exact @U f n k _ _ _ _ _ _ _ _ _ _ l m o Q
theorem EZ(W:Wd θ)(U:gw θ)(w:∀k f,ew θ n k f)(u:∀k f,qW θ n k f)(v:mE θ n)(J:∀ {f:Fm} {k:Nat} {t:Expr} {p:Pos} {q e' o i g y},dD k f.sc (.ListComp o i g y)=some e'->rj f.sc t=some q->nk θ (n+1) f (.a q e') (.Assign [t] (.ListComp o i g y) p)):
  mE θ (n+1):=by
 intro f k l st
 induction k with
 |zero=>exact @w6 θ f (n+1) _
 |succ k=>
 have j:ew θ n k f:=w k f
 induction st using PySem.Stmt.casesOn with
 |Assign Y e p=>refine @uV θ f (n+1) _ _ λ s' h=>?_;refine @ac _ _ _ _ (aE h) λ t d h=>?_;rw[fA d];exact @Kl θ f n k p e t s' W w (fun{_ _ _ _ _ _}=> @J f k t p _ _ _ _ _ _) h
 |AugAssign t z e p=>exact @uV θ f (n+1) _ _ λ s' h=> @Kj θ f n k p e t s' W j z h
 |Expr e p=>refine @uV θ f (n+1) _ _ λ s' h=>?_;refine @aK _ _ _ (fe h) λ m h=>?_;(refine @ac _ _ _ _ (bc h) λ e' d O=>?_;subst O);exact @H7 θ f n k _ p _ j (not_true m) d
 |If c a b p=>refine @uV θ f (n+1) _ _ λ s' h=>?_;(refine @ac _ _ _ _ (bc h) λ Q d H=>?_;subst H);exact @Uo θ f n _ p _ _ _ k (u k f d) (v l)
 |For t it b s p=>refine @uV θ f (n+1) _ _ λ s' h=>?_;refine @aK _ _ _ (fe h) λ m h=>?_;refine @ac _ _ _ _ (aE h) λ q d h=>?_;(refine @ac _ _ _ _ (bc h) λ oE r G=>?_;subst G);rw[List.isEmpty_iff.mp m];exact @LM θ f n k p _ _ _ _ _ k W l j (v l) d (Bx r)
 |While c b s p=>refine @uV θ f (n+1) _ _ λ s' h=>?_;refine @aK _ _ _ (fe h) λ m h=>?_;(refine @ac _ _ _ _ (bc h) λ Q d B=>?_;subst B);rw[List.isEmpty_iff.mp m];exact @E8 θ f n p _ _ _ l (u k f d)
 |Return e p=>
  refine @uV θ f (n+1) _ _ λ s' h=>?_
  induction e with
  |none=>obtain rfl:=an (h);exact @H6 θ f n p
  |some e=>(refine @ac _ _ _ _ (bc h) λ e' d A=>?_;subst A);exact @LL θ f n k _ p _ j d
 |Raise e c p=>refine @uV θ f (n+1) _ _ λ s' h=>?_;refine @ac _ _ _ _ (aE h) λ e' d h=>?_;refine @aK _ _ _ (fe h) λ r L=>?_;subst d;rw[Option.isNone_iff_eq_none.mp r];exact @BJ θ f n k p _ s' U l j L
 |Continue p=>exact @H8 θ f n p
 |_=>exact @w6 θ f (n+1) _
structure HP(θ:Th)(n:Nat):Prop where
 e:∀k f,ew θ n k f
 t:∀k f,qW θ n k f
 s:mE θ n
theorem HP.step(W:Wd θ)(j:Tb θ)(m:gw θ)(h:HP θ n)(l:∀ {f:Fm} {k:Nat} {t:Expr} {p:Pos} {g e' d c b i},dD k f.sc (.ListComp d c b i)=some e'->rj f.sc t=some g->nk θ (n+1) f (.a g e') (.Assign [t] (.ListComp d c b i) p)):HP θ (n+1):=
 ⟨λ _ _ {_ _} q=>(zs W j h.e h.t h.s q).1,λ _ _ {_ _} q=>(zs W j h.e h.t h.s q).2,EZ W m h.e h.t h.s l⟩
theorem uW:HP θ 0:=⟨λ _ _ {_ _} _ {_ _ _ _ _ _} _ a=>a.elim,λ _ _ {_ _} _ {_ _ _ _ _ _ _} _ a=>a.elim,fun{_ _} _ _ {_ _ _ _ _ _} _ a=>a.elim⟩
theorem E4(W:Wd θ)(c:Tb θ)(d:gw θ):HP θ 1:=uW.step W c d fun{_ _ _ _ a _ _ _ _ _} _ _ {_ _ _ _ _ _} _ b=>by rcases a with ⟨⟩<;> exact b.elim
theorem yw(W:Wd θ)(c:Tb θ)(d:gw θ):∀n,HP θ n/\HP θ (n+1)
 |0=>⟨uW,E4 W c d⟩
 |n+1=>by
  rwa[aK (yw W c d n),g b];refine⟨b,b.step W c d fun{f k t p l e' j h a m} q i=>?_⟩
  induction k with
  |zero=>exact aD (q)
  |succ k=>exact @s9 θ f n k p _ _ _ _ _ _ _ W (b.e _ f) (g.e k) (g.t k) q i
theorem s8(W:Wd θ)(a:Tb θ)(b:gw θ)(n:Nat):HP θ n:=(yw W a b n).1
end
abbrev o0:List Value:=[.type "Exception",.type "BaseException",.type "object"]
section
variable{M:Model}{A:Around}{E:Value->Shared->Prop}{h:Heap}{g:Array GenState}{d:Drawn}{t:Nat}{os:OsState}{prog:Program}{w:World}{R:Result->Shared->Prop}
variable{nm q:Str}{C eX N:Addr}{bs:List Value}{kL:Bool}{sn:List Str}{sub:List Value}{ab:Bool}{col:Option Bool}{dd:Option Addr}{k0 k1 k2 k3 k5:Option Value}
theorem jT(T:String):(Value.ref C::Value.ref eX::o0).contains (.type T)=o0.contains (.type T):=by rw[List.contains_cons,List.contains_cons];rfl
theorem rD(a:h.get? C=some (excClassObj nm q C N bs (.ref eX::o0) kL sn sub ab col dd k0 k1 k2 k3 k5 "Exception.__new__"))
  (c:Q () ⟨h,g,d,t,os⟩):wpAny M A (checkBuiltinCall "Exception.__new__" ⟨.ref C::b,[]⟩) Q E ⟨h,g,d,t,os⟩:=by
 have F:=F.excBase_Exception;have e:(Value.ref C:: .ref eX::o0).contains (.type "Exception")=true:=by rw[jT];decide+kernel
 have f:=F.noStar;unfold checkBuiltinCall
 erw[F.newKind,F.newSplit,F.newRow]
 dsimp only
 repeat first|refine wpAny_loadPart_at a ?_|refine wpAny_isSubtype_exc a ?_;erw[e]|refine wpAny_staticBase_exc a ?_|refine wpAny_madeBy_exc a ?_|simp only[bne_self_eq_false,Bool.false_eq_true,if_false]|wp_step
 exact c
theorem Gp(e:h.get? C=some (excClassObj nm q C N bs (.ref eX::o0) kL sn sub ab col dd k0 k1 k2 k3 k5 "Exception.__new__"))
  (f:R (.ok (.ret (.ref (h.objs.size+1)))) ⟨(h.push {cls:=.type "tuple",data:=.seq a.toArray}).push
   {cls:=.ref C,data:=.fields #[.ref h.objs.size,.none,.none,.none,.bool false,.none]},g,d,t,os⟩) (j:a.length<=sizeLine):
  codeAny (model prog w) A (.builtin "Exception.__new__" ⟨.ref C::a,[]⟩) R ⟨h,g,d,t,os⟩:=by
 have F:=F.excBase_Exception;have k:=F.ends;have i:(Value.ref C:: .ref eX::o0).contains (.type "Exception")=true:=by rw[jT];decide+kernel
 have c:(Value.ref C:: .ref eX::o0).contains (.type "AttributeError")=false:=by rw[jT];decide+kernel
 have b:(Value.ref C:: .ref eX::o0).contains (.type "NameError")=false:=by rw[jT];decide+kernel
 refine codeAny_builtinAt F.entry ?_;unfold Builtin.«BaseException.__new__»;refine PySem.wpAt_bind ?_;show PySem.wpAt _ _ _ (stack >>= _) _ _ _;refine PySem.wpAt_bind (PySem.wpAt_stack λ p below=>PySem.wpAt_of_wpAny ?_)
 wp_walk
 refine PySem.wpAt_of_wpAny ?_;refine aU F.owner ?_
 repeat (first|with_reducible refine wpAny_madeHere_exc F.canon e ?_|with_reducible refine wpAny_loadPart_at e ?_|(with_reducible refine wpAny_isSubtype_exc e ?_;first|refine aU i ?_|refine aU c ?_|refine aU b ?_)|wp_step)
 show R _ _;rw[Heap.size_push];exact f
theorem xQ(a:h.get? C=some (excClassObj nm q C N bs (.ref eX::o0) kL sn sub ab col dd k0 k1 k2 k3 k5 "Exception.__new__"))(e:h.Ns N b)(f:b name=some v)
  (c:Q (some v) ⟨h,g,d,t,os⟩):wpAny M A (typeLookup (.ref C) name) Q E ⟨h,g,d,t,os⟩:=by
 rw[typeLookup_eq];refine wpAny_bind (wpAny_mroOf_exc a ?_);rw[lookupAlong_cons];refine wpAny_bind (wpAny_classOwn_exc a e ?_);exact aU f (wpAny_pure c)
theorem rB
  (c:h.get? C=some (excClassObj nm q C N bs (.ref eX::o0) kL sn sub ab col dd k0 k1 k2 k3 k5 "Exception.__new__")) (l:h.Ns N j) (z:j "__init__" =some (.ref n))
  (U:h.get? n=some v) (Y:v.cls=.type "function")
  (y:∀m e,Heap.MadeExcOf h m e (.ref C) a->
   wpAny (model prog w) A (call (.ref n) (.ref e::a)) (λ r i=>r=.none/\Q (.done (.ret (.ref e))) i) E ⟨m,g,d,t,os⟩) (s:a.length<=sizeLine):
  wpAny (model prog w) A (Builtin.«type.__call__» ⟨.ref C::a,[]⟩) Q E ⟨h,g,d,t,os⟩:=by
 have F:=F.excBase_Exception
 repeat first|with_reducible refine wpAny_loadPart_at c ?_|with_reducible refine wpAny_madeBy_exc c ?_|wp_step
 refine codeAny_call_builtin_code (Code.quiet_builtin _ F.quiet) (rD c ?_);refine Gp c ?_ s;show wpAny _ _ _ _ _ _;have f:=Heap.get?_push_of_some {cls:=.ref C,data:=.fields #[.ref h.objs.size,.none,.none,.none,.bool false,.none]}
  (Heap.get?_push_of_some {cls:=.type "tuple",data:=.seq a.toArray} c)
 have u:=Heap.get?_push_of_some {cls:=.ref C,data:=.fields #[.ref h.objs.size,.none,.none,.none,.bool false,.none]}
  (Heap.get?_push_of_some {cls:=.type "tuple",data:=.seq a.toArray} U)
 have CZ:((h.push {cls:=.type "tuple",data:=.seq a.toArray}).push {cls:=.ref C,data:=.fields #[.ref h.objs.size,.none,.none,.none,.bool false,.none]}).Ns N j:=
  by rwa[iK l,o H J e r,-l];exact(jR o H J (Heap.get?_push_of_some _ (Heap.get?_push_of_some _ e)) r)
 have p:((h.push {cls:=.type "tuple",data:=.seq a.toArray}).push
   {cls:=.ref C,data:=.fields #[.ref h.objs.size,.none,.none,.none,.bool false,.none]}).get? (h.objs.size+1)=some
   {cls:=.ref C,data:=.fields #[.ref h.objs.size,.none,.none,.none,.bool false,.none]}:=by heap_get
 have O:(Value.ref C:: .ref eX::o0).contains (.ref C)=true:=by simp
 unfold isInstance
 repeat first|with_reducible refine wpAny_loadPart_at p ?_|with_reducible refine wpAny_isSubtype_exc f ?_;erw[O]|wp_step
 show wpAny _ _ (typeLookup (.ref C) _) _ _ _;refine xQ f CZ z (wpAny_holding (wpAny_bind ?_));unfold bindSpecial;refine wpAny_bind (wpAny_typeOf (T:= "function") (aw _ u Y) ?_)
 erw[if_pos (by decide)]
 refine wpAny_pure (wpAny_bind (wpAny_mono (y _ (h.objs.size+1) ⟨λ b o B=>Heap.get?_push_of_some _ (Heap.get?_push_of_some _ B),Heap.get?_none_of_le (Nat.le_succ _),h.objs.size,p,Heap.get?_none_of_le (Nat.le_refl _),?_⟩) (λ r i k=>?_) λ _ _ x=>x))
 ·exact Heap.get?_push_of_some _ (Heap.get?_push_at rfl rfl)
 ·rwa[aK k,L G];try clear k;subst L
  wp_walk
  exact G
theorem Dv
  (b:h.get? C=some (excClassObj nm q C N bs (.ref eX::o0) kL sn sub ab col dd k0 k1 k2 k3 k5 "Exception.__new__")) (n:h.Ns N l) (p:l "__init__" =some (.ref f))
  (s:h.get? f=some k) (u:k.cls=.type "function")
  (m:∀c e,Heap.MadeExcOf h c e (.ref C) a->
   wpAny (model prog w) (A.under (.builtin "type.__call__" ⟨.ref C::a,[]⟩)) (call (.ref f) (.ref e::a)) (fun r j=>r=.none∧Q (.ref e) j) E ⟨c,g,d,t,os⟩) (i:a.length≤sizeLine):
  wpAny (model prog w) A (call (.ref C) a) Q E ⟨h,g,d,t,os⟩:=by
 have y:=tc_lookup;have x:=tc_bind (.ref C);have v:(⟨h,g,d,t,os⟩:Shared).TypeIs (.ref C) "type" :=(aw _ b rfl);refine wpAny_call (codeAny_of_tree ?_);show wpAny _ _ (callAny (.ref C) _) _ _ _
 repeat any_goals first|assumption|with_reducible refine wpAny_loadPart_at b ?_|wp_step
 refine⟨rfl,?_⟩;refine codeAny_call_builtin_at (Code.quiet_builtin _ (by decide+kernel)) entry_typeCall (wpAny_check_type_call_sub b (rB b n p s u (λ c e o=>?_) i));exact m c e o
end
end
section
open PySem PySem.W PyProof.Rows Builtin Builtin.ObjectAttr
section
variable{A:Around}{E:Value->Shared->Prop}{h:Heap}{g:Array GenState}{d:Drawn}{t:Nat}{os:OsState}{prog:Program}{w:World}{R:Result->Shared->Prop}
variable{K:Frag}{C eX x:Addr}{cd:ClassData}{mA:Str->Option Value}{name:Str}{v:Value}
theorem AA(X:K.In h)(Y:clsIn K C=some cd)(hm:cd.mro=.ref C:: .ref eX::o0)(hd:cd.hasDict=true)(ht:takerIn K C name=some none)(I:h.Inst x C mA)
  (hq:∀n AT,n.Inst x C (λ y=>if y=name then some v else mA y)->
   (∀b o,b≠x->(∀k j,h.get? x=some k->k.dict=some j->b≠j)->h.get? b=some o->n.get? b=some o)->
   (∀k,h.get? x=some k->∃s,n.get? x=some s/\s.cls=k.cls/\s.data=k.data/\s.slots=k.slots/\(∀j,k.dict=some j->s.dict=some j)/\∃j,s.dict=some j/\(k.dict=none->h.get? j=none))->R (.ok (.ret .none)) ⟨n,g,d,AT,os⟩)
  (hw:Within mA ns) (oX:ns.length<=1000):
  codeAny (model prog w) A (.call (.builtin "object.__setattr__") ⟨[.ref x,.str name B,v],[]⟩) R ⟨h,g,d,t,os⟩:=by
 have G:=F.store_object;have SE:=F.store_Exception;rwa[dR I,o m H Of Oz,-I];have U:Looks (model prog w) h (typeOf (.ref x)) (.ref C):=H▸ (Looks.ld m).andThen .now;have C1:Looks (model prog w) h (mroOf (.ref C)) cd.mro:=(looks_clsIn X Y).andThen .now;have sub:Looks (model prog w) h (isInstance (.ref x) (.type "object")) true:=U.andThen (looks_mroIn X (by unfold mroIn;rw[Y,Option.bind_some,hm,if_neg (by simp)];rw[jT];decide+kernel));refine codeAny_call_builtin G.slot.plain G.entry (@check_slot (model prog w) _ _ ⟨h,g,d,t,os⟩ "object.__setattr__" "object" "__setattr__" (.ref x) [.str name B,v] [] _ G.kind G.split sub (G.args (.ref x) (.str name B) v) ?_);rwa[ac (Option.bind_eq_some_iff.mp ht),Kk ha hr];have L3:Looks (model prog w) h (storeTaker? Kk) none:=by
  induction Kk with
  |none=>exact .now
  |some a=>
   rwa[ac (Option.map_eq_some_iff.mp hr),b r Q];refine(looks_takesIn X r).andThen ?_
   cases b
   ·exact .now
   ·exact dk (Q)
 rw[osa_eq,refuse_eq];refine wpAny_bind (wpAny_bind (U.at (wpAny_bind (C1.at ?_))));rw[hm,refuseLoop_ref,refuseLoop_ref,SE.passes];refine wpAny_pure (wpAny_bind (U.at (wpAny_bind ((looks_findIn X ha).at (wpAny_bind (L3.at ?_))))));show wpAny _ _ (storeInOwnDict (.ref x) (.ref C) (.str name B) name v Kk.isSome) _ _ _;refine wpAny_bind (wpAny_pure (wpAny_bind ?_));refine wpAny_bind (wpAny_loadPart m ?_)
 erw[H]
 refine wpAny_bind ((looks_clsIn X Y).at ?_)
 erw[hd]
 rcases Oz with ⟨RQ,L⟩|⟨j,u,J,mh⟩
 ·dsimp only
  erw[RQ]
  dsimp only
  erw[if_neg (by decide),if_neg (by simp [typeHasDict])]
  split
  ·rename_i c KV;exact absurd KV (Of c)
  ·have Hy:(h.push {cls:=.type "dict",data:=.dict #[]}).get? x=some o:=Heap.get?_push_of_some _ m;have Vi:=Nat.ne_of_lt (Heap.lt_size m);refine wpAny_bind (wpAny_alloc' ?_);refine wpAny_bind (wpAny_update' Hy ?_);have qp:((h.push {cls:=.type "dict",data:=.dict #[]}).update x fun o=>{cls:=o.cls,dict:=some h.objs.size,data:=o.data,slots:=o.slots}).get? h.objs.size
     =some {cls:=.type "dict",data:=.dict #[]}:=
    (Heap.get?_update_ne _ _ _ _ Vi.symm).trans (Heap.get?_push_at rfl rfl)
   have Oe:((h.push {cls:=.type "dict",data:=.dict #[]}).update x fun o=>{cls:=o.cls,dict:=some h.objs.size,data:=o.data,slots:=o.slots}).Ns h.objs.size (fun _=>none):=
    (gM _ (#[]) _ qp rfl (λ e he=>absurd he (by simp)) (λ _=>rfl))
   refine wpAny_pure (a:=some h.objs.size) ?_;show wpAny _ _ (storeInDict h.objs.size (.str name B) name v) _ _ _;unfold storeInDict newKeyGuard;refine wpAny_bind (wpAny_pure (wpAny_bind (wpAny_nsSet1 (Heap.Ns1.of_empty Oe) λ n p q=>?_)));rwa[cy (p.count (Within.cons name v Within.nil)),oD esD epD VE V7 Wb];refine wpAny_bind (wpAny_lookBehind VE (by exact aU V7 (pastItsLine_dict (Nat.le_trans Wb (by erw[List.length_cons,List.length_nil,sizeLine_eq];exact X1 (.i (.c 1) (.c 16777217)) [] (.l [1]) rfl)))) ?_);have o9:n.get? x=some {cls:=o.cls,dict:=some h.objs.size,data:=o.data,slots:=o.slots}:=by refine(q.2 x Vi).trans (Heap.get?_update_self _ Hy ?_);have oJ:=(Heap.get?_some_iff.mp m).2;obtain ⟨oc,od,UB,XU⟩:=o;rcases UB with ⟨⟩<;> first|rfl|exact oJ
   refine wpAny_pure (hq n _ (dP ({cls:=o.cls,dict:=some h.objs.size,data:=o.data,slots:=o.slots}) o9 H Of (.inr (cR h.objs.size rfl Vi.symm ?_))) (λ b ob O _ r=>?_)
    (λ k f=>by obtain rfl:o=k:=an (m.symm.trans f);exact(xA _ o9 rfl rfl rfl (λ j e=>(by rw[RQ]at e;exact(aD (e)))) ⟨_,rfl,λ _=>Heap.get?_none_of_le (Nat.le_refl _)⟩)))
   ·rwa[qC p,o' es ep e1 e2 e3 eu e4,-p];exact(qj o' es ep e1 e2 e3 eu (λ y=>by erw[e4 y];by_cases hy:y=name<;> simp [hy,L]))
   ·exact(q.2 b (Nat.ne_of_lt (Heap.lt_size r))).trans ((Heap.get?_update_ne _ _ _ _ O).trans (Heap.get?_push_of_some _ r))
 ·dsimp only
  erw[u]
  refine wpAny_pure (a:=some j) ?_;show wpAny _ _ (storeInDict j (.str name B) name v) _ _ _;unfold storeInDict newKeyGuard;refine wpAny_bind (wpAny_pure (wpAny_bind (wpAny_nsSet1 mh λ n p q=>?_)));rwa[cy (p.count (Within.cons name v hw)),oD esD epD VE V7 Wb];refine wpAny_bind (wpAny_lookBehind VE (by exact aU V7 (pastItsLine_dict (Nat.le_trans Wb (by erw[List.length_cons,sizeLine_eq];exact mF (.i (.a W0 (.c 1)) (.c 16777217)) [.i W0 (.c 1000)] (.l [1,1]) rfl oX)))) ?_);refine wpAny_pure (hq n _ (dP o ((q.2 x J.symm).trans m) H Of (.inr (cR j u J p))) (λ b ob _ OH r=>?_)
   (λ k f=>(xA k ((q.2 x J.symm).trans f) rfl rfl rfl (λ _ e=>e) ?_)))
  ·exact(q.2 b (OH o j m u)).trans r
  ·rw[m]at f;obtain rfl:=an (f);exact(aw j u (λ z=>(by rw[u]at z;exact(dk (z)))))
theorem v6(X:K.In h)(H:findIn K (.ref C) "__setattr__" =some (some (.builtin "object.__setattr__")))(U:clsIn K C=some cd)(L:cd.mro=.ref C:: .ref eX::o0)(O:cd.hasDict=true)(G:takerIn K C name=some none)(I:h.Inst x C mA)
  (J:∀j n,j.Inst x C (λ y=>if y=name then some v else mA y)->
   (∀b o,b≠x->(∀f i,h.get? x=some f->f.dict=some i->b≠i)->h.get? b=some o->j.get? b=some o)->
   (∀f,h.get? x=some f->∃k,j.get? x=some k/\k.cls=f.cls/\k.data=f.data/\k.slots=f.slots/\(∀i,f.dict=some i->k.dict=some i)/\∃i,k.dict=some i/\(f.dict=none->h.get? i=none))->Q () ⟨j,g,d,n,os⟩)
  (B:Within mA ns) (z:ns.length<=1000):wpAny (model prog w) A (setAttr (.ref x) name v) Q E ⟨h,g,d,t,os⟩:=by
 rwa[dR (id I),o p q Of Oz];have r:notCls o=true:=by
  unfold notCls
  split
  ·rename_i c KV;exact absurd KV (Of c)
  ·rfl
 have m:∃l,InstAt h x o C l:=by
  rcases Oz with ⟨Y,_⟩|⟨i,u,_,⟨l,es,ep,e,_⟩⟩
  ·exact⟨none,p,q,r,by erw[Y];trivial⟩
  ·exact⟨some l,p,q,r,by exact aU u e⟩
 obtain ⟨l,m⟩:=m;refine set_plain (s:=⟨h,g,d,t,os⟩) X m H (AA X U L O G I (λ j n a b c=>J j n a b c) B z)
end
section
variable{P:Places}{base:Heap}{A:Around}{X:Value->Shared->Prop}{s s':Shared}{h h' h₀:Heap}{g:Array GenState}{d:Drawn}{t:Nat}{os:OsState}{prog:Program}{w:World}{R:Result->Shared->Prop}{env:PySem.Env}
variable{K:Frag}{C eX e:Addr}{cd:ClassData}{mA m:Str->Option Value}{name:Str}{u v:Value}
theorem Hj(q:attributeBase o name env (eval o env)=eval o env)
  (n:methodCallForm (b.length+([]:List Keyword).length) (backTo a (starEach b env)) (backToKw a (keywordEach [] env))=true) (x:(p.endLine==a.line)=true)
  (h:∀k,wpAny (model prog w) A (eval o env) (λ f i=>wpAny (model prog w) A (getMethod f name k) (λ c j=>wpAny (model prog w) A (callWith a c.1 c.2 (backTo a (starEach b env)) []) Q X j) X i) X s):
  wpAny (model prog w) A (eval (.Call (.Attribute o name p) b [] a) env) Q X s:=by
 rw[arm_eval_Call,q];refine wpAny_bind (wpAny_mono (h (do return (← importBound o env).getD true)) (λ f i l=>wpAny_bind (wpAny_standAt ?_)) λ _ _ z=>z);unfold methodCall
 erw[n]
 unfold calleeOf methodCallPos
 erw[if_pos rfl,x]
 refine wpAny_bind (wpAny_holding (wpAny_mono l (λ c j r=>?_) λ _ _ z=>z));exact wpAny_bind (aU (if_pos (by decide)) (wpAny_pure r))
theorem pS(f:env.scope.kind=.function)(c:env.kindOf x=some .local)(b:s.heap.Ns env.locals m)(a:m x=some v)(i:(x==("__debug__" :Str))=false)(h:Q v s):
  wpAny (model prog w) A (eval (.Name x p) env) Q X s:=wpAny_Name (wpAny_loadName_local f c b a h) i
theorem Dj:Frag.In [] h:=λ _ _ e=>aD (e)
theorem v7:findCls [] (.type "Exception") (.type "type") "__init__" =some (.val (.builtin "Exception.__init__")):=by rfl
theorem wx(h:∀t,Q (.builtin "Exception.__init__",[]) {s with toks:=t}):
  wpAny (model prog w) A (getMethod (.type "Exception") "__init__" k) Q X s:=by
 have f:typeOf (.type "Exception")=pure (.type "type"):=by kernel_rfl
 have a:Frag.In [] s.heap:=Dj;have i:opaqueClassAbove (.type "Exception")=pure none:=by kernel_rfl
 have c:Looks (model prog w) s.heap (typeOf (.type "Exception")) (.type "type"):=Looks.of_pure f;have b:=type_tga;unfold getMethod specialOf;refine wpAny_bind (wpAny_bind (c.here ((looks_findIn a b).here ?_)))
 dsimp only
 erw[if_pos canon_tga]
 refine wpAny_bind (wpAny_mono (Q:=λ v=>Q (v,[])) (E:=X) ?_ (λ _ _ z=>wpAny_pure z) λ _ _ z=>z);have j:Looks (model prog w) s.heap (opaqueClassAbove (.type "Exception")) none:=Looks.of_pure i;refine cls_open a j c b (looks_hook a (r:=none) (by rfl)) (by show subIn [] _ _=_;rfl) v7
  (wpAny_pure (by show wpAny _ _ (handedOut _) _ _ _;exact aU (handedOut_of (by decide+kernel)) (wpAny_pure (h _))))
theorem xf(a:K.In s.heap)(c:specialIn K (.ref C) "__getattribute__" =some (some (.builtin "type.__getattribute__")))(b:readsIn K C (.type "type")=true)
  (i:findCls K (.ref C) (.type "type") name=some (.val (.ref f))) (h:∀t,Q (.ref f,[]) {s with toks:=t}):wpAny (model prog w) A (getMethod (.ref C) name j) Q X s:=
 method_cls a c (cls_value a b i rfl (h _))
end
section
variable{P:Places}{base:Heap}{A:Around}{X:Value->Shared->Prop}{s s':Shared}{h h' h₀:Heap}{g:Array GenState}{d:Drawn}{t:Nat}{os:OsState}{prog:Program}{w:World}{R:Result->Shared->Prop}{env:PySem.Env}
variable{K:Frag}{C eX e:Addr}{cd:ClassData}{mA m:Str->Option Value}{name:Str}{u v:Value}
variable{nm q:Str}{N:Addr}{bs:List Value}{kL:Bool}{sn:List Str}{sub:List Value}{ab:Bool}{col:Option Bool}{dd R8:Option Addr}{k0 k1 k2 k3 k5:Option Value}
abbrev zr(t:Addr):Array Value:= #[.ref t,.none,.none,.none,.bool false,.none]
theorem qu(f:h.get? C=some (excClassObj nm q C N bs (.ref eX::o0) kL sn sub ab col dd k0 k1 k2 k3 k5 "Exception.__new__"))(k:h.get? e=some i)(o:i.cls=.ref C)(j:Q () ⟨h,g,d,t,os⟩):
  wpAny (model prog w) A (checkBuiltinCall "Exception.__init__" ⟨.ref e::c,[]⟩) Q X ⟨h,g,d,t,os⟩:=by
 have F:=F.excBase_Exception;have l:(Value.ref C:: .ref eX::o0).contains (.type "Exception")=true:=by rw[jT];decide+kernel
 have p:=F.noStar;unfold checkBuiltinCall
 erw[F.initKind,F.initSplit,F.initRow]
 dsimp only
 repeat first|with_reducible refine wpAny_loadPart_at k ?_;erw[o]|with_reducible refine wpAny_loadPart_at f ?_|with_reducible refine wpAny_isSubtype_exc f ?_;erw[l]|wp_step
 refine wpAny_onRaise ?_;rw[show ∀ (a b:String) (n:Nat),Bind.check ⟨.positional,"*","Exception",.self,[⟨"args",.varPos,false⟩]⟩ a b n (List.map (fun x=>x.fst) ({pos:=Value.ref e::c}:Args).kw)=pure ()from
  λ a b n=>check_star_args _ _ _ _ _ _]
 exact wpAny_pure j
theorem rE(k:h.get? C=some (excClassObj nm q C N bs (.ref eX::o0) kL sn sub ab col dd k0 k1 k2 k3 k5 "Exception.__new__"))
  (a:h.get? e=some {cls:=.ref C,dict:=R8,data:=.fields (zr n)})
  (i:∀h' f,(∀b o,b≠e->h.get? b=some o->h'.get? b=some o)->h'.get? e=some {cls:=.ref C,dict:=R8,data:=.fields (zr f)}->Q .none ⟨h',g,d,t,os⟩):
  wpAny (model prog w) A (call (.builtin "Exception.__init__") [.ref e,v]) Q X ⟨h,g,d,t,os⟩:=by
 have F:=F.excBase_Exception;refine wpAny_call (codeAny_call_builtin F.init.plain F.initEntry (qu k a rfl ?_))
 wp_walk
 have c:=Heap.get?_push_of_some {cls:=.type "tuple",data:=.seq #[v]} a;refine i _ h.objs.size (λ b o j l=>?_) ?_
 ·exact(Heap.get?_update_other _ _ (Ne.symm j)).trans (Heap.get?_push_of_some _ l)
 ·erw[Heap.get?_update_self _ c rfl];rfl
structure zG(base:Heap)(a:Addr)(names:List Str)(oK:List Str)(body:List Stmt):Prop where
 at_:∃ (o:Obj) (fd:FuncData),base.get? a=some o∧o.data=.func fd∧o.cls=.type "function" ∧base.CodeRec fd.code fd.qualname∧fd.body=.stmts body∧fd.closure=[]∧
  (∀vals,vals.length=names.length->bindArgs fd ⟨vals,[]⟩=pure (names.zip vals))/\(∀y∈names,fd.scope.names.lookup y=some .local)/\(∀y∈oK,fd.scope.names.lookup y=some .globalImplicit)/\
  fd.scope.isCoroutine=false/\fd.scope.isGenerator=false/\fd.scope.kind=.function/\fd.globals=mainGlobals/\fd.builtins=builtinsNs
theorem u8(Y:base.NoLimit)(k:∀b o,base.get? b=some o->s.heap.get? b=some o)(hf:zG base f a J body)(U:c.length=a.length)(hd:A.depth<1000)
  (h:∀env i,env.scope.kind=.function->(∀y∈a,env.kindOf y=some .local)->(∀y∈J,env.kindOf y=some .globalImplicit)->env.globals=mainGlobals->env.builtins=builtinsNs->s.heap.get? env.locals=none->
   i.heap.Ns env.locals (bindL env.kindOf (a.zip c) λ _=>none)->(∀b o,s.heap.get? b=some o->i.heap.get? b=some o)->i.gens=s.gens->i.drawn=s.drawn->i.os=s.os->
   wpAny (model prog w) (A.deeper env) (PySem.execs body env) (λ f s'=>Q (match f with| .ret v=>v|_=>.none) s') (λ _ _=>False) i):
  wpAny (model prog w) A (call (.ref f) c) Q X s:=by
 rwa[Gv hf.at_,o j h1 h2 h3 G h5 h6 h7 r h9 HD Po B n l];have Dd:s.heap.CodeRec j.code j.qualname:=by rwa[mr G,cc LV H t d1 d2 d3,-G];exact(tW cc LV H t d1 (k _ _ d2) d3)
 refine wpAny_call (codeAny_call_cells (body:=body) (binds:=a.zip c) hd (k _ _ h1) h2 (Y.keeps k) Dd h5 (h7 c U) h6 (λ y O=>.inl (r _ (List.of_mem_zip O).1)) (λ i x=>?_) HD Po B);obtain ⟨⟨⟨hh,tk,p⟩,L,fU,Jx⟩,lN,wU,De⟩:=x;have hL:s.heap.get? (callEnvC j s.heap.objs.size f).locals=none:=Heap.get?_none_of_le (Nat.le_refl _);exact wpAny_mono (h (callEnvC j s.heap.objs.size f) i B r h9 n l hL L fU (by exact aU p rfl) (by exact aU p rfl) (by exact aU p rfl)) (λ _ _ z=>z) λ _ _ z=>z.elim
structure oh(h₀ h:Heap)(C e:Addr)(mA:Str->Option Value):Prop where
 keep:∀b o,b≠e->h₀.get? b=some o->h.get? b=some o
 inst:h.Inst e C mA
 obj:∃oe t',h.get? e=some oe/\oe.cls=.ref C/\oe.data=.fields (zr t')/\oe.slots= #[]/\(∀dx,oe.dict=some dx->h₀.get? dx=none)
theorem oh.grown(x:oh h₀ h C e mA)(a:∀b o,h.get? b=some o->h'.get? b=some o):oh h₀ h' C e mA:=by obtain ⟨k,⟨o,y,r,p,n⟩,j,i,l,o2⟩:=x;exact⟨λ b o f z=>a _ _ (k b o f z),(dP o (a _ _ y) r p (n.imp id λ c=>by rwa[bR c,d H G B,-c];exact(cR d H G (B.at λ o z=>a _ _ z)))),j,i,a _ _ l,o2⟩
theorem oh.comp(x:oh h₀ h C e mA)(y:oh h h' C e r):oh h₀ h' C e r:=by
 obtain ⟨B,H,f,L,l,k,j,J,i⟩:=y;rwa[cO x.obj,U Q p _];refine⟨λ b o n z=>B _ _ n (x.keep b o n z),H,f,L,l,k,j,J,λ c z=>?_⟩;have a:=i c z;generalize q:h₀.get? c=O;induction O with
 |none=>rfl
 |some o=>
  have G:c≠e:=λ z=>by rw[z,p]at a;exact dk (a)
  rw[x.keep c o G q]at a;exact dk (a)
theorem oh.set(x:oh h₀ h C e mA)(X0:K.In h)(hs:findIn K (.ref C) "__setattr__" =some (some (.builtin "object.__setattr__")))(hC:clsIn K C=some cd)(hm:cd.mro=.ref C:: .ref eX::o0)(hd:cd.hasDict=true)(ht:takerIn K C name=some none)
  (hw:Within mA ns) (oX:ns.length<=1000)
  (hq:∀h' l,oh h₀ h' C e (λ y=>if y=name then some v else mA y)->Q () ⟨h',g,d,l,os⟩):
  wpAny (model prog w) A (setAttr (.ref e) name v) Q X ⟨h,g,d,t,os⟩:=by
 refine v6 X0 hs hC hm hd ht x.inst (λ h' l i k1 k2=>?_) hw oX;rwa[cv x.obj,p H j o2 o3 o4 r];rwa[DM (k2 p j),fc p1 p2 Y U O B];rwa[ac B,k n L,-B];refine hq h' l ⟨λ b o a z=>k1 b o a (λ ic f a G q=>?_) (x.keep b o a z),i,fc,H,p1,p2.trans o2,Y.trans o3,U.trans o4,λ f z=>?_⟩
 ·rw[j]at a;obtain rfl:=an (a);rw[q,r f G]at z;exact aD (z)
 ·rw[n]at z;obtain rfl:=an (z);generalize q:p.dict=Lh;induction Lh with
  |none=>
   have c:=L q;have iI:k≠e:=λ z=>by rw[z,j]at c;exact dk (c)
   generalize J:h₀.get? k=Lg;induction Lg with
   |none=>rfl
   |some o=>rw[x.keep _ _ iI J]at c;exact dk (c)
  |some f=>have:=O f q;rw[n]at this;obtain rfl:=an (this);exact r k q
theorem oh.init(x:oh h₀ h C e mA)(B:h.get? C=some (excClassObj nm q C N bs (.ref eX::o0) kL sn sub ab col dd k0 k1 k2 k3 k5 "Exception.__new__"))
  (y:∀h',oh h₀ h' C e mA→Q .none ⟨h',g,d,t,os⟩):wpAny (model prog w) A (call (.builtin "Exception.__init__") [.ref e,v]) Q X ⟨h,g,d,t,os⟩:=by
 rwa[cv x.obj,H U k o2 j i f];obtain ⟨oc,Y,UB,XU⟩:=H
 dsimp only at o2 j i f
 subst o2 j i;refine rE B k λ h' O k1 k2=>y h' ⟨λ b o a z=>k1 b o a (x.keep b o a z),?_,_,O,k2,rfl,rfl,rfl,f⟩;rwa[dR x.inst,o l i2 i3 r];rw[k]at l;obtain rfl:=an (l);exact(dP _ k2 rfl (λ c z=>(bZ Data.ctorIdx (z) rfl)) (r.imp id λ p=>by rwa[bR p,G L n J,-p];exact(cR G L n (J.at λ o z=>k1 _ _ n z))))
end
end
section
open PySem PySem.W PyProof.Rows Builtin Builtin.ObjectAttr
theorem K6{k:Str->Option NameKind}{m:Str->Option Value}:bindL k [] m=m:=rfl
theorem K5{k:Str->Option NameKind}{n:Str}{v:Value}{r:List (Str×Value)}{m:Str->Option Value}:bindL k ((n,v)::r) m=bindL k r (if k n=some .local then λ y=>if y=n then some v else m y else m):=rfl
noncomputable def QF(l k j i f c b a o n:Pos):List Stmt:=
 [.Expr (.Call (.Attribute (.Name "Exception" l) "__init__" o) [.Name "self" k,.Name "text" j] [] n) i,.Assign [.Attribute (.Name "self" f) "text" c] (.Name "text" b) a]
noncomputable def QE(y x r p o n l k j H i f c b a G B z:Pos):List Stmt:=
 [.Expr (.Call (.Attribute (.Name "AdaError" y) "__init__" B) [.Name "self" x,.Name "text" r] [] z) p,.Assign [.Attribute (.Name "self" o) "name" n] (.Name "name" l) k,
  .Assign [.Attribute (.Name "self" j) "word" H] (.Name "name" i) f,.Assign [.Attribute (.Name "self" c) "line" b] (.Name "line" a) G]
set_option genInjectivity false
set_option genSizeOf false
structure KG where
 (nm q:Str) (N:Addr) (bs:List Value) (kL:Bool) (sn:List Str) (sub:List Value) (ab:Bool) (col:Option Bool) (dd:Option Addr) (k0 k1 k2 k3 k5:Option Value)
noncomputable def Qf(r:KG)(C:Addr)(a:List Value)(i:String):Obj:=excClassObj r.nm r.q C r.N r.bs a r.kL r.sn r.sub r.ab r.col r.dd r.k0 r.k1 r.k2 r.k3 r.k5 i
noncomputable def QV(l:List Stmt):Prop:=∃p:Nat->Pos,l=QF (p 0) (p 1) (p 2) (p 3) (p 4) (p 5) (p 6) (p 7) (p 8) (p 9)/\((p 8).endLine==(p 9).line)=true
noncomputable def QU(l:List Stmt):Prop:=∃p:Nat->Pos,l=QE (p 0) (p 1) (p 2) (p 3) (p 4) (p 5) (p 6) (p 7) (p 8) (p 9) (p 10) (p 11) (p 12) (p 13) (p 14) (p 15) (p 16) (p 17)/\((p 16).endLine==(p 17).line)=true
structure Q0 where
 (K:Frag) (eX f4 f2:Addr) (r:KG) (mN mg mb:Str->Option Value) (cd:ClassData) (b4 b2:List Stmt)
structure KD(C:Addr)(base:Heap)(D:Q0):Prop where
 X0:D.K.In base
 cls:base.get? C=some (Qf D.r C (.ref D.eX::o0) "Exception.__new__")
 hN:base.Ns D.r.N D.mN
 hi:D.mN "__init__" =some (.ref D.f4)
 wT:zG base D.f4 ["self","name","line","text"] ["AdaError"] D.b4
 pe:zG base D.f2 ["self","text"] ["Exception"] D.b2
 i4:QU D.b4
 i2:QV D.b2
 h1:specialIn D.K (.ref D.eX) "__getattribute__" =some (some (.builtin "type.__getattribute__"))
 h2:readsIn D.K D.eX (.type "type")=true
 h3:findCls D.K (.ref D.eX) (.type "type") "__init__" =some (.val (.ref D.f2))
 hs:findIn D.K (.ref C) "__setattr__" =some (some (.builtin "object.__setattr__"))
 hC:clsIn D.K C=some D.cd
 hm:D.cd.mro=.ref C:: .ref D.eX::o0
 hd:D.cd.hasDict=true
 ht:takerIn D.K C "text" =some none
 NM:takerIn D.K C "name" =some none
 ht3:takerIn D.K C "word" =some none
 Vo:takerIn D.K C "line" =some none
 VV:base.Ns mainGlobals D.mg
 hg2:base.Ns builtinsNs D.mb
 hgA:D.mg "AdaRaise" =some (.ref C)
 hg0:D.mg "AdaError" =some (.ref D.eX)
 hg3:D.mg "Exception" =none
 VU:D.mb "Exception" =some (.type "Exception")
 hl:base.NoLimit
structure QY(P:Places)(base:Heap):Prop where
 at_:∃D,KD (P.ca 4) base D
section
variable{P:Places}{base:Heap}{A:Around}{X:Value->Shared->Prop}{s s' ay:Shared}{h h' h₀:Heap}{g:Array GenState}{d:Drawn}{t:Nat}{os:OsState}{prog:Program}{w:World}{R:Result->Shared->Prop}{env:PySem.Env}
variable{K:Frag}{C eX e:Addr}{cd:ClassData}{mA m mg mb:Str->Option Value}{name:Str}{u v:Value}
variable{nm q:Str}{N:Addr}{bs:List Value}{kL:Bool}{sn:List Str}{sub:List Value}{ab:Bool}{col:Option Bool}{dd R8:Option Addr}{k0 k1 k2 k3 k5:Option Value}
theorem mL{y a:Str}{n l pc k:Pos}{ns:List Str}{Q:PySem.Flow→Shared→Prop}(c:env.scope.kind=.function)(r:env.kindOf "self" =some .local)(p:env.kindOf y=some .local)(b:s.heap.Ns env.locals m)(j:m "self" =some (.ref e))(i:m y=some v)(z:(y==("__debug__" :Str))=false)
  (x:oh h₀ s.heap C e mA) (Y:K.In s.heap) (H:findIn K (.ref C) "__setattr__" =some (some (.builtin "object.__setattr__"))) (U:clsIn K C=some cd) (L:cd.mro=.ref C:: .ref eX::o0) (O:cd.hasDict=true) (G:takerIn K C a=some none)
  (B:Within mA ns) (o:ns.length<=1000)
  (J:∀s',oh h₀ s'.heap C e (λ y=>if y=a then some v else mA y)->s'.gens=s.gens->s'.drawn=s.drawn->s'.os=s.os->Q .next s'):
  wpAny (model prog w) A (exec (.Assign [.Attribute (.Name "self" n) a l] (.Name y pc) k) env) Q X s:=by
 refine plainObj_wpAny_Assign_Attribute (pS c p b i z (pS c r b j (by decide+kernel) ?_)) rfl;exact x.set Y H U L O G B o λ h' AT f=>J _ f rfl rfl rfl
theorem HM(j:env.scope.kind=.function)(p:env.kindOf "self" =some .local)(o:env.kindOf "text" =some .local)(i:s.heap.Ns env.locals m)(l:m "self" =some (.ref e))(k:m "text" =some v)
  (n:mD s.heap f) (h:wpAny (model prog w) A (call f [.ref e,v]) Q X s):
  wpAny (model prog w) A (callWith a f [] (backTo a (starEach [.Name "self" c,.Name "text" b] env)) []) Q X s:=by
 have r:backTo a (starEach [.Name "self" c,.Name "text" b] env)=[(false,eval (.Name "self" c) env),(false,eval (.Name "text" b) env)]:=rfl
 erw[r]
 refine kZ rfl (gp rfl (Calls.spliced_cons (pS j p i l (by decide+kernel) (Calls.spliced_cons (pS j o i k (by decide+kernel) (Calls.spliced_nil (bN rfl n h)))))))
theorem Qc:methodCallForm (([.Name "self" c,.Name "text" b]:List Expr).length+([]:List Keyword).length) (backTo a (starEach [.Name "self" c,.Name "text" b] env)) (backToKw a (keywordEach [] env))=true:=rfl
theorem gR{st:Stmt}{a:List Stmt}{Q:PySem.Flow->Shared->Prop}(h:wpAny (model prog w) A (exec st env) (λ f ay=>f=.next/\wpAny (model prog w) A (PySem.execs a env) Q X ay) X s):wpAny (model prog w) A (PySem.execs (st::a) env) Q X s:=by show wpAny (model prog w) A (do match ← exec st env with| .next=>PySem.execs a env|f=>pure f) Q X s;refine wpAny_bind (wpAny_mono h (λ f ay b=>?_) λ _ _ z=>z);obtain ⟨rfl,b⟩:=b;exact b
theorem oh.self(x:oh h h C e mA)(i:∀b o,h.get? b=some o->h'.get? b=some o):oh h' h' C e mA:=by
 rwa[cv x.obj,k j c o2 p n l];have y:=x.grown i;refine⟨λ _ _ _ z=>z,y.inst,k,j,i _ _ c,o2,p,n,λ B z=>?_⟩;rwa[dR x.inst,o f _ _ r];rw[c]at f;obtain rfl:=an (f);rcases r with ⟨q,_⟩|⟨H,q,_,G,_,_,a,_⟩
 ·rw[z]at q;exact dk (q)
 ·rw[z]at q;obtain rfl:=an (q);rw[l B z]at a;exact aD (a)
theorem mW(x:oh h h' C e mA)(b:L≠e)(a:h.Ns L m):h'.Ns L m:=by rwa[iK a,o c f i r,-a];exact(jR o c f (x.keep _ _ b i) r)
theorem KZ(x:∀b o,base.get? b=some o->h'.get? b=some o)(a:K.In base):K.In h':=a.keeps x
noncomputable def mU(v:Value)(y:Str):Option Value:=if y= "text" then some v else none
theorem AD{D:Q0}{Q:Value->Shared->Prop}(E:KD C base D)(l:∀b o,base.get? b=some o->s.heap.get? b=some o)(C9:A.depth<1000)(RP:base.get? e=none)
  (x:oh s.heap s.heap C e (λ _=>none))
  (Y:∀s',oh s.heap s'.heap C e (mU u)->s'.gens=s.gens->s'.drawn=s.drawn->s'.os=s.os->Q .none s'):
  wpAny (model prog w) A (call (.ref D.f2) [.ref e,u]) Q X s:=by
 rwa[ac E.i2,p OH C2];have J:=E.pe;rw[OH]at J;rwa[u8 E.hl l J rfl C9,env ay i r C6 eg eb L H a g1 g2 g3];have f:=r "self" (by simp);have c:=r "text" (by simp);have EQ:=x.grown a;have Pm:env.locals≠e:=λ z=>by rwa[cO x.obj,oe _ U _];rw[z,U]at L;exact dk (L)
 have n:=x.self a;have k:∀ {h:Heap} {mA:Str->Option Value},oh ay.heap h C e mA->∀b o,base.get? b=some o->h.get? b=some o:=λ x b o z=>x.keep b o (λ O=>by rw[O,RP]at z;exact aD (z)) (a _ _ (l b o z));have B:bindL env.kindOf ((["self","text"]:List Str).zip [.ref e,u]) (fun _=>none) "self" =some (.ref e):=by show bindL env.kindOf [("self",.ref e),("text",u)] (fun _=>none) "self" =_;simp only[K5,K6,f,c,if_true];erw[if_neg (by decide+kernel)];rfl
 have y:bindL env.kindOf ((["self","text"]:List Str).zip [.ref e,u]) (fun _=>none) "text" =some u:=by show bindL env.kindOf [("self",.ref e),("text",u)] (fun _=>none) "text" =_;simp only[K5,K6,f,c,if_true]
 refine gR (wpAny_Expr_any (Hj rfl Qc C2 λ pl=>?_) (by unfold interactive;exact aU i rfl) rfl);refine Calls.Name_function_global i (C6 "Exception" (by simp)) (Calls.loadGlobal_builtin (by exact aU eg (E.VV.keeps (fun b o z=>k n b o z))) E.hg3 (by exact aU eb (E.hg2.keeps (fun b o z=>k n b o z))) E.VU ?_) (by decide+kernel);rwa[wx,G];refine HM (s:={ay with toks:=G}) i f c H (e:=e) (v:=u) B y (.builtin _) ?_;obtain ⟨hh,gg,dr,tk,Uz⟩:=ay;refine oh.init (h₀:=hh) n (a _ _ (l _ _ E.cls)) λ h' j=>⟨rfl,?_⟩;refine gR (mL (s:=⟨h',gg,dr,G,Uz⟩) i f c (mW j Pm H) (v:=u) B y (by decide+kernel) j (E.X0.keeps (k j)) E.hs E.hC E.hm E.hd E.ht (ns:=[]) (λ _ z=>absurd rfl z) (by decide) λ s' Ba g4 g5 g6=>⟨rfl,?_⟩);exact wpAny_pure (Y s' ((x.grown a).comp Ba) (g4.trans g1) (g5.trans g2) (g6.trans g3))
end
end
section
open PySem PySem.W PyProof.Rows Builtin Builtin.ObjectAttr
section
variable{P:Places}{base:Heap}{A:Around}{X:Value->Shared->Prop}{s s' ay:Shared}{h h' h₀:Heap}{g:Array GenState}{d:Drawn}{t:Nat}{os:OsState}{prog:Program}{w:World}{R:Result->Shared->Prop}{env:PySem.Env}
variable{K:Frag}{C eX e:Addr}{cd:ClassData}{mA m mg mb:Str->Option Value}{name:Str}{u v:Value}
variable{nm q:Str}{N:Addr}{bs:List Value}{kL:Bool}{sn:List Str}{sub:List Value}{ab:Bool}{col:Option Bool}{dd R8:Option Addr}{k0 k1 k2 k3 k5:Option Value}
noncomputable def uz(a b c:Value)(y:Str):Option Value:=if y= "line" then some b else if y= "word" then some a else if y= "name" then some a else mU c y
theorem AC(E:KD C base D)(hb:∀b o,base.get? b=some o->s.heap.get? b=some o)(C9:A.depth<900)(RP:base.get? e=none)
  (x:oh s.heap s.heap C e (λ _=>none))
  (hq:∀s',oh s.heap s'.heap C e (uz a b c)->s'.gens=s.gens->s'.drawn=s.drawn->s'.os=s.os->Q .none s'):
  wpAny (model prog w) A (call (.ref D.f4) [.ref e,a,b,c]) Q X s:=by
 rwa[ac E.i4,p OH Jt];have wT:=E.wT;rw[OH]at wT;rwa[u8 E.hl hb wT rfl (mF (.j W0 (.c 1000)) [.j W0 (.c 900)] (.l [1,1]) rfl C9),env ay n J C6 eg eb hL O fU g1 g2 g3];have i:=J "self" (by simp);have k:=J "name" (by simp);have H:=J "line" (by simp);have G:=J "text" (by simp);have Pm:env.locals≠e:=λ z=>by rwa[cO x.obj,oe _ o1 _];rw[z,o1]at hL;exact dk (hL)
 have Bb:=x.self fU;have r:∀b o,base.get? b=some o->ay.heap.get? b=some o:=λ b o z=>fU _ _ (hb b o z);have U:∀ {h:Heap} {mA:Str->Option Value},oh ay.heap h C e mA->∀b o,base.get? b=some o->h.get? b=some o:=λ x b o z=>x.keep b o (λ z1=>by rw[z1,RP]at z;exact aD (z)) (r b o z);have f:∀y v,(bindL env.kindOf [("self",.ref e),("name",a),("line",b),("text",c)] fun _=>none) y=v→bindL env.kindOf ((["self","name","line","text"]:List Str).zip [.ref e,a,b,c]) (fun _=>none) y=v:=fun _ _ z=>z;have L:bindL env.kindOf ((["self","name","line","text"]:List Str).zip [.ref e,a,b,c]) (fun _=>none) "self" =some (.ref e):=by refine f _ _ ?_;simp only[K5,K6,i,k,H,G,if_true];erw[if_neg (by decide+kernel),if_neg (by decide+kernel),if_neg (by decide+kernel)];rfl
 have v2:bindL env.kindOf ((["self","name","line","text"]:List Str).zip [.ref e,a,b,c]) (fun _=>none) "name" =some a:=by refine f _ _ ?_;simp only[K5,K6,i,k,H,G,if_true];erw[if_neg (by decide+kernel),if_neg (by decide+kernel)];rfl
 have v3:bindL env.kindOf ((["self","name","line","text"]:List Str).zip [.ref e,a,b,c]) (fun _=>none) "line" =some b:=by refine f _ _ ?_;simp only[K5,K6,i,k,H,G,if_true];erw[if_neg (by decide+kernel)];rfl
 have v4:bindL env.kindOf ((["self","name","line","text"]:List Str).zip [.ref e,a,b,c]) (fun _=>none) "text" =some c:=by refine f _ _ ?_;simp only[K5,K6,i,k,H,G,if_true]
 refine gR (wpAny_Expr_any (Hj rfl Qc Jt λ pl=>?_) (by unfold interactive;exact aU n rfl) rfl);refine Calls.Name_function_global n (C6 "AdaError" (by simp)) (Calls.loadGlobal_global (by exact aU eg (E.VV.keeps r)) E.hg0 ?_) (by decide+kernel);rwa[xf (E.X0.keeps r) E.h1 E.h2 E.h3,oV];rwa[cX E.pe.at_,o2 fd2 w1 w2 _];refine HM (s:={ay with toks:=oV}) n i G O (e:=e) (v:=c) L v4 (.func (r _ _ w1) w2) (AD (s:={ay with toks:=oV}) E r (by show A.depth+1<1000;exact mF (.j (.a W0 (.c 1)) (.c 1000)) [.j W0 (.c 900)] (.l [1,1]) rfl C9) RP Bb λ aH B g4 g5 g6=>⟨rfl,?_⟩);have B:=B;have wi:Within (mU c) ["text"]:=fun y z=>by
  unfold mU at z
  split at z
  ·rename_i q;exact aU q (.head _)
  ·exact absurd rfl z
 refine gR (mL n i k (mW B Pm O) L v2 (by decide+kernel) B (E.X0.keeps (U B)) E.hs E.hC E.hm E.hd E.NM wi (by decide) λ bf Ba g7 g8 g9=>⟨rfl,?_⟩);have XF:=Within.cons "name" a wi;refine gR (mL n i k (mW Ba Pm O) L v2 (by decide+kernel) Ba (E.X0.keeps (U Ba)) E.hs E.hC E.hm E.hd E.ht3 XF (by simp) λ bK HU g10 g11 g12=>⟨rfl,?_⟩);have ZR:=Within.cons "word" a XF;refine gR (mL n i H (mW HU Pm O) L v3 (by decide+kernel) HU (E.X0.keeps (U HU)) E.hs E.hC E.hm E.hd E.Vo ZR (by simp) λ cI Sj g13 g14 Y=>⟨rfl,?_⟩);refine wpAny_pure (hq cI ?_ (g13.trans (g10.trans (g7.trans (g4.trans g1)))) (g14.trans (g11.trans (g8.trans (g5.trans g2)))) (Y.trans (g12.trans (g9.trans (g6.trans g3)))));exact(x.grown fU).comp Sj
theorem AB(x:Heap.MadeExcOf h h' e (.ref C) f):oh h' h' C e (λ _=>none)/\h.get? e=none/\∀b o,h.get? b=some o->h'.get? b=some o:=by obtain ⟨k,n,t,a,j,i⟩:=x;exact(bN ⟨λ _ _ _ z=>z,(dP _ a rfl (λ c z=>(bZ Data.ctorIdx (z) rfl)) (.inl ⟨rfl,λ _=>rfl⟩)),_,t,a,rfl,rfl,rfl,λ l z=>(aD (z))⟩ n k)
end
section
variable{M:Model}{A:Around}{E:Value->Shared->Prop}{env:PySem.Env}{s:Shared}
variable{nm q:Str}{C eX N:Addr}{bs:List Value}{kL:Bool}{sn:List Str}{sub:List Value}{ab:Bool}{col:Option Bool}{dd:Option Addr}{k0 k1 k2 k3 k5:Option Value}
theorem rC{base:Heap}{x:Sem Value}{Q:PySem.Flow→Shared→Prop}(l:A.handled=none)(y:base.get? C=some (excClassObj nm q C N bs (.ref eX::o0) kL sn sub ab col dd k0 k1 k2 k3 k5 "Exception.__new__"))
  (h:wpAny M A x (λ v ay=>∃e c,v=.ref e/\(∀b o,base.get? b=some o->ay.heap.get? b=some o)/\
   ay.heap.get? e=some c/\c.cls=.ref C/\(∃t,c.data=.fields (zr t))/\E (.ref e) ay) E s):
  wpAny M A (raiseStmt env (some x) none) Q E s:=by
 have u:(Value.ref C:: .ref eX::o0).contains (.type "BaseException")=true:=by rw[jT];decide+kernel
 unfold raiseStmt;refine wpAny_bind (wpAny_mono h (λ v ay f=>?_) λ _ _ x=>x);rwa[qD f,e p r a m k i n];try clear f;obtain ⟨G,B,L,J⟩:=p;subst r;rwa[aW i,t j,-i]
 have a:=a _ _ y
 dsimp only at k j
 subst k j;obtain ⟨H,g,d,z,os⟩:=ay
 repeat first|with_reducible refine wpAny_loadPart_at m ?_|with_reducible refine wpAny_loadPart_at a ?_|with_reducible refine wpAny_isSubtype_exc a ?_;erw[u]|wp_step
 exact wpAny_raiseNew_none l n
end
section
variable{P:Places}{base:Heap}{A:Around}{X:Value->Shared->Prop}{s s' ay:Shared}{h h' h₀:Heap}{prog:Program}{w:World}{env:PySem.Env}
variable{nm q:Str}{C eX N:Addr}{bs:List Value}{kL:Bool}{sn:List Str}{sub:List Value}{ab:Bool}{col:Option Bool}{dd:Option Addr}{k0 k1 k2 k3 k5:Option Value}
theorem uw(i:c.any (·.1)=false)(p:base.get? C=some (excClassObj nm q C N bs (.ref eX::o0) kL sn sub ab col dd k0 k1 k2 k3 k5 "Exception.__new__"))
  (h:wpAny (model prog w) A (evalArgs (.ref C) true c []) (λ a ay=>a.kw=[]/\(∀b o,base.get? b=some o->ay.heap.get? b=some o)/\wpAny (model prog w) A (call (.ref C) a.pos) Q X ay) X s):
  wpAny (model prog w) A (callWith j (.ref C) [] c []) Q X s:=by
 unfold callWith;refine wpAny_bind (wpAny_holding (wpAny_mono h (λ a ay f=>wpAny_bind (wpAny_standAt ?_)) λ _ _ x=>x));obtain ⟨y,e⟩:=a;rwa[cA f,n m l,-f];obtain rfl:e=[]:=n;obtain ⟨u,g,d,t,os⟩:=ay;simp only[i,List.any_nil,Bool.or_false,List.nil_append];refine wpAny_bind (wpAny_keeperOf_exc (m _ _ p) ?_);exact wpAny_bind (wpAny_mono l (λ r v k=>wpAny_bind (wpAny_holding (wpAny_point (wpAny_pure k)))) λ _ _ x=>x)
end
section
variable{θ:Th}{z z':Z}{L:Addr->Prop}
theorem ec.Q6(S:ec θ z):oa θ z:=
 ⟨S.len,λ i j a e f=>by rwa[cA (S.obj i _ a e f),g _ c];rwa[ac c,d l r,-c];exact⟨g,d,l.isList,r⟩,S.old,S.lo,λ b i e=>(S.there b i e).imp λ _ h=>h.1⟩
theorem q8.ZV(x:q8 L z z'):uK L z z':=⟨x.pre,x.ext,x.new,λ b o l e h _=>⟨o.slots,x.keep b o l e h⟩,x.there,x.gens,x.os⟩
theorem xY:uz a b c "due" =none:=(if_neg (by decide+kernel)).trans ((if_neg (by decide+kernel)).trans ((if_neg (by decide+kernel)).trans (if_neg (by decide+kernel))))
theorem u9(W:Wd θ)(EW:QY θ.P θ.base):gw θ:=fun{f n k g x x' v t np r p O pos} hf hE hx hg {ρ z Q E K X} c hq hK hX=>by
 have Ga:=c.a.depth;rwa[aW EW.at_,D E];rw[arm_exec_Raise];refine wpAny_bind (wpAny_standAt ?_);refine rC c.st.handled E.cls (wpAny_bind (jD rfl (Calls.Name_function_global c.st.kind (c.st.kinds _ _ (beq_iff_eq.mp hg) (by decide)) (Calls.loadGlobal_global (by exact aU c.st.globals (c.s.ns E.VV)) E.hgA ?_) (by decide+kernel))));have hb:backTo O (starEach [.Constant (.str g) v r,.Constant (.int 0) t p,x] f.env)=[(false,eval (.Constant (.str g) v r) f.env),(false,eval (.Constant (.int 0) t p) f.env),(false,eval x f.env)]:=by
  have e1:backTo O (starEach [.Constant (.str g) v r,.Constant (.int 0) t p,x] f.env)=(false,eval (.Constant (.str g) v r) f.env)::(false,eval (.Constant (.int 0) t p) f.env)::backTo O (starEach [x] f.env):=rfl
  erw[e1,iy hx];rfl
 erw[hb]
 have N1:=c.s.grown (s':={z.s with toks:=z.s.toks+1+1}) (λ _ _ e=>e) rfl rfl;refine uw rfl E.cls (gp rfl (Calls.spliced_cons (wpAny_Constant_str (Calls.spliced_cons (wpAny_Constant_int (Calls.spliced_cons (hE hx (c.less.go N1) hq (λ a u bu q2 N2 ra=>Calls.spliced_nil ?_) (hX.after N1.wide))))))));have h:=N2.sim;have d:=h.old;refine(bN rfl d ?_);rwa[dm E.wT.at_,o4 fd4 w1 w2 w3 _];obtain ⟨φ,G,σ,J,gg,dr,tk,Uz⟩:=bu;refine Dv (d _ _ E.cls) (E.hN.keeps d) E.hi (d _ _ w1) w3 (λ h' e hm=>?_) (by simp [sizeLine_eq]);rwa[cA (AB hm),Ub Od Y];have U:=h.fresh Od;refine AC (s:=⟨h',gg,dr,tk,Uz⟩) E (λ b o z=>Y _ _ (d b o z)) (by show f.A.depth+1<900;exact iA (.j (.a W0 (.c 1)) (.c 900)) [.i (.a W0 (.m 2 (.a W1 (.c 1)))) (.c 900)] (.l [1,1]) rfl Ga) U.2 Ub λ B EQ g1 g2 g3=>⟨rfl,?_⟩;have keep:∀b o,J.get? b=some o->B.heap.get? b=some o:=λ b o z=>EQ.keep b o (λ q=>dk ((q▸z).symm.trans Od)) (Y b o z);rwa[cv EQ.obj,oe t' H o2 o3 XW o5];refine wpAny_bind (wpAny_standAt (wpAny_pure (tX e oe rfl (λ b o z=>keep _ _ (d b o z)) H o2 ⟨t',o3⟩ ?_)));have N3:=N1.trans (N2.trans (h.grown (s':=B) keep g1 g3));rwa[dR EQ.inst,oi i1 i2 i3 i4];obtain rfl:=an (H.symm.trans i1);rcases i4 with ⟨_,w⟩|⟨y,w,i6,i7⟩
 ·have:=w "word";exact absurd this (by unfold uz;erw[if_neg (by decide+kernel),if_pos rfl];exact λ z=>dk (z))
 ·have uI:J.get? y=none:=by
   generalize z:J.get? y=Lf;induction Lf with
   |none=>rfl
   |some o=>exact dk ((Y _ _ z).symm.trans (o5 y w))
  have Za:=h.fresh uI;exact hX g e ⟨φ,G,σ,B⟩ q2 ⟨N3.sim.Q6,N3.go.wide.ZV,y,_,oe,_,⟨H,o2,w,i6,i7,⟨_,by unfold uz;erw[if_neg (by decide+kernel),if_pos rfl];rfl⟩,o3,⟨U.1,Za.1⟩,⟨U.2,Za.2⟩,xY⟩,.inl rfl⟩
end
end
section
open PySem PyProof.Rows PySem.W
abbrev told:Str:=Str.ofString "told"
noncomputable def Th.ph(θ:Th)(q:Addr)(B:Heap):Th:=⟨{θ.P with cl:=some q},θ.prog,θ.w,B⟩
section
variable{θ:Th}{f:Fm}{n k i:Nat}{ρ dH:Env}{z z':Z}{q:Addr}{B:Heap}{h:Heap}{φ:wI}{v:V}{u:Value}
theorem RV.ph(r:RV θ.P h φ v u):RV (θ.ph q B).P h φ v u:=
 RV.rec (P:=θ.P) (motive_1:=λ v w _=>RV (θ.ph q B).P h φ v w) (motive_2:=λ v w _=>et (θ.ph q B).P h φ v w) .none .bool .int .str (λ x _ y=>.tup x y) .ref (λ k=>.fn (P:=(θ.ph q B).P) k) (λ k=>.cls (P:=(θ.ph q B).P) k) .bi (λ x=>.ke x) .nil (λ _ _ x y=>.cons x y) r
theorem et.ph{v:List V}{u:List Value}(r:et θ.P h φ v u):et (θ.ph q B).P h φ v u:=r.ind (m:=λ v u=>et (θ.ph q B).P h φ v u) .nil λ x _ y=>.cons x.ph y
structure HQ(θ:Th)(z:Z)(B:Heap):Prop where
 old:∀b o,θ.base.get? b=some o->B.get? b=some o
 new:∀b o,B.get? b=some o->θ.base.get? b=some o∨(z.own b=none/\z.s.heap.get? b=some o/\∃vs,o.data=.fields vs)
theorem HQ.none(x:HQ θ z B)(h:θ.base.get? b=none)(e:z.s.heap.get? b=some o)(g:∀a,o.data≠ .fields a):B.get? b=none:=by
 generalize q:B.get? b=j;induction j with
 |none=>rfl
 |some c=>
  rcases x.new b c q with y|⟨_,y,a,d⟩
  ·exact aD (h.symm.trans y)
  ·obtain rfl:=an (e.symm.trans y);exact absurd d (g a)
theorem ec.ph(S:ec θ z)(d:θ.P.cl=none)(x:HQ θ z B):ec (θ.ph q B) z where
 len:=S.len
 obj i o a e f:=⟨(S.obj i o a e f).1,by
  have r:=(S.obj i o a e f).2
  induction o with
  |list L=>exact⟨r.1,r.2.imp λ _ y=>⟨y.1,y.2.ph⟩⟩
  |inst k O=>rwa[qB r,o H c A t s p m g,-r];exact(qi o H c A t s p m (λ j x e=>(g j x e).imp λ _ _ y=>y.ph))
  |dM G=>exact⟨r.1,r.2.imp λ _ y=>⟨y.1,λ k=>(y.2 k).imp λ _ _ y=>y.ph⟩⟩
  |fS G=>exact r.imp λ _ y=>⟨y.1,λ k=>(y.2 k).imp λ _ _ y=>y.ph⟩
  |tell l=>rwa[Gs r,_ _ _ _ _ y,-r];exact aD (d.symm.trans y.cl)⟩
 old b o e:=(x.new b o e).elim (S.old b o) λ y=>y.2.1
 lo b i e:=by
  show B.get? b=none;generalize w:B.get? b=J;induction J with
  |none=>rfl
  |some o=>
   rcases x.new b o w with y|y
   ·exact aD ((S.lo b i e).symm.trans y)
   ·exact dk (e.symm.trans y.1)
 there:=S.there
theorem fE.ph(x:HQ θ z B)(s:fE θ z b):fE (θ.ph q B) z b:=by rwa[cA s,g e d];try clear s;rwa[ac d,o c a,-d];exact(bN g (x.none e c a) ⟨o,c,a⟩)
theorem lG.ph(x:HQ θ z B):∀ {l:List PySem.Env},lG θ z l->lG (θ.ph q B) z l
 | [],_=>trivial
 |_::_,y=>⟨⟨y.1.1,y.1.2.imp λ _ w=>⟨w.1,w.2.ph x⟩⟩,lG.ph x y.2⟩
theorem pn.ph(x:HQ θ z B)(a:pn θ A n z)(b:fE θ z q):pn (θ.ph q B) A n z:=
 ⟨a.depth,a.units,a.frames.imp λ _ y=>⟨y.1,y.2.ph x⟩,λ _ e=>by obtain rfl:=an (e);exact b.ph x⟩
noncomputable def jn(a:List (Str×NameKind)):List (Str×NameKind):=a.map λ p=>(p.1,if p.1=told then .free else p.2)
theorem fV:∀ {a:List (Str×NameKind)},(jn a).lookup x=(a.lookup x).map λ k=>if x=told then .free else k
 | []=>rfl
 |(y,k)::r=>by
  show List.lookup x ((y,if y=told then .free else k)::jn r)=_
  erw[List.lookup_cons,List.lookup_cons]
  by_cases e:x=y
  ·subst e;rw[beq_self_eq_true];rfl
  ·exact aU (beq_eq_false_iff_ne.mpr e) fV
theorem jA:cC (jn a) x=cC a x:=by unfold cC jn;exact aU List.map_map rfl
theorem nT(h:a.lookup told=some .cell):cG (jn a) x=cG a x:=by
 unfold cG
 erw[fV]
 by_cases e:x=told
 ·subst e;rw[h];rw[Option.map_some,if_pos rfl];rfl
 ·cases a.lookup x with
  |none=>rfl
  |some k=>rw[Option.map_some,if_neg e]
theorem lF.ph(g:f.sc.lookup told=some .cell)(b:a=jn f.sc)(h:lF θ f ρ z x o):lF (θ.ph q B) ⟨f.A,f.env,a⟩ ρ z x o:=λ i v e d c=>by subst b;exact(h i v ((nT g).symm.trans e) (jA.symm.trans d) c).imp λ _ r=>⟨r.1,r.2.ph⟩
theorem d7.ph(b:f.sc.lookup told=some .cell)(a:g=jn f.sc)(e:d7 θ f ρ z):d7 (θ.ph q B) ⟨f.A,f.env,g⟩ ρ z where
 ns:=e.ns.imp λ m y=>⟨y.1,λ x j=>(y.2 x j).ph b a⟩
 cells x c y:=by rwa[aK (e.cells x c y),p d];rwa[ac d,v o l,-d];exact⟨p,v,o,λ k=>(l k).ph b a⟩
 len:=by subst a;exact e.len.trans (bo ..).symm
 pU:=e.pU
theorem lH.ph(L:f.sc.lookup told=some .cell)(l:G=jn f.sc)(J:f.env.cells.lookup told=some q)(x:HQ θ z B)(e:d7 θ f ρ z)(c:lH θ f):lH (θ.ph q B) ⟨f.A,f.env,G⟩ where
 kind:=c.kind
 kinds y k a g:=by
  subst l;have a:=a;rw[fV]at a;rwa[ac (Option.map_eq_some_iff.mp a),H j d];by_cases w:y=told
  ·rw[if_pos w]at d;exact absurd d.symm g
  ·rw[if_neg w]at d;subst d;exact c.kinds y _ j g
 globals:=c.globals
 builtins:=c.builtins
 how y i a g:=by subst l;exact c.how y i ((nT L).symm.trans a) (jA.symm.trans g)
 yG:=by rwa[ac e.ns,m r _];rwa[cy r,o Y ep j d _,-r];exact x.none c.yG j λ t w=>bZ Data.ctorIdx (d.symm.trans w) rfl
 zA y b a g:=by
  subst l;have a:=a;rw[fV]at a;rwa[ac (Option.map_eq_some_iff.mp a),H j d];by_cases w:y=told
  ·rw[if_pos w]at d;exact bZ NameKind.ctorIdx (d) rfl
  ·rw[if_neg w]at d;subst d;rwa[aK (e.cells y b g),_ s];rwa[ac s,v p _];try clear s;rwa[ac p,o Q O,-p]
   exact⟨λ U=>w (c.apart y told b g (by obtain rfl:=an (U);exact J)),x.none (c.zA y b j g).2 Q λ t w=>bZ Data.ctorIdx (O.symm.trans w) rfl⟩
 apart:=c.apart
 handled:=c.handled
theorem mu(m:∀st,nk θ n f (nG k f.sc st) st){a:List Stmt}{K:PySem.Flow->Shared->Prop}{X:Value->Shared->Prop}:∀ (b:List Stmt) {ρ z Q E},Cx θ f n ρ z->pw (execs (TI n) (b.map (nG k f.sc)) ρ) Q E z.σ->
  (∀g dH z',Q (g,dH) z'.σ->Nx θ (Loc f.env) z z'->d7 θ f dH z'->g=.next/\wpAny (model θ.prog θ.w) f.A (PySem.execs a f.env) K X z'.s)->dq θ (Loc f.env) z E X->
   wpAny (model θ.prog θ.w) f.A (PySem.execs (b++a) f.env) K X z.s
 | [],ρ,z,_,_,c,j,d,_=>(d .next ρ z j (.refl c.s) c.e).2
 |st::b,_,_,_,_,c,j,d,l=>by
  show wpAny (model θ.prog θ.w) f.A (do match ← exec st f.env with| .next=>PySem.execs (b++a) f.env|f=>pure f) K X _;refine wpAny_bind (m st c j (λ g x y F q N e r=>?_) l)
  induction r with
  |next=>exact mu m b (c.at N e) q (λ g dH z' o t p=>d g dH z' o (N.trans t) p) (l.after N)
  |cont=>exact bZ Zd ((d _ _ _ q N e).1) rfl
  |ret r=>exact bZ Zd ((d _ _ _ q N e).1) rfl
end
section
variable{θ:Th}{f:Fm}{n k i j l:Nat}{ρ dH:Env}{z z':Z}{q cd Pt:Addr}{B:Heap}{mg:Str->Option Value}{name:Str}{params:Arguments}{body:List Stmt}{scope:Scope}{pos:Pos}{K:PySem.Flow->Shared->Prop}{X:Value->Shared->Prop}
structure Kz(θ:Th)(f:Fm)(mg:Str->Option Value)(cd Pt:Addr):Prop where
 code:f.env.code=.ref cd
 hd:CodeHd θ.base cd Pt
 none:θ.base.get? Pt=none
 ne:mainGlobals≠Pt
 ns:θ.base.Ns mainGlobals mg
 bmod:θ.base.BuiltinsAt mg Pt
 grow:∀ob:Obj,ob.isFreed=false->∃B:Heap,B.get? Pt=some ob/\∀b,b≠Pt->B.get? b=θ.base.get? b
theorem GB(D:Kz θ f mg cd Pt)(c:Cx θ f n ρ z)(hn:θ.P.cl=none)(hP:z.s.heap.get? Pt=some (tabObj #[]))(JP:z.own Pt=none)
  (d0:params.defaults=[]) (k0:params.kw_defaults=[]) (a0:annTrees params none f.env=[]) (uc:closureFor scope f.env=pure [(told,q)])
  (v:f.sc.lookup told=some .cell) (hq:f.env.cells.lookup told=some q) (hj:cC f.sc told=some j) (hl:ρ[j]?= some (some (.ref l))) (hi:cC f.sc name=some i) (hs:f.sc.lookup name=some .local) (iI:name≠told)
  (hH:∀vb g pm p ct,θ.P.tl (fnX name vb params body scope [(told,q)] .none .none g pm none (.ref p) ct))
  (h:∀B z',(∀b o,θ.base.get? b=some o->B.get? b=some o)->(∃ps,B.get? Pt=some (tabObj ps))->Cx (θ.ph q B) ⟨f.A,f.env,jn f.sc⟩ n (ρ.set i (some (.ref z.σ.length))) z'->z'.σ=z.σ++[.tell l]->z'.s.gens=z.s.gens->z'.s.os=z.s.os->K .next z'.s):
  wpAny (model θ.prog θ.w) f.A (exec (.FunctionDef name params body [] none [] scope none name pos) f.env) K X z.s:=by
 refine nestDef_K d0 k0 a0 ?_;have S:=c.s;rwa[makeFunction_K uc c.st.globals (D.ns.keeps S.old) D.code (D.hd.keeps S.old) hP trivial rfl D.ne (D.bmod.keeps S.old),p Zm g d r hx hge lL Vw htb];obtain ⟨m,RM⟩:∃m,m=fnMade name (qualnameIn f.env name name) params body scope [(told,q)] g ((mg "__name__").getD .none) p Zm:=⟨_,rfl⟩;refine fM RM ?_;have T:jG θ z Pt (tabObj #[]) {z.s with heap:=d,toks:=r}:=⟨hx,JP,D.none,hP,⟨λ _ _ w=>(bZ Data.ctorIdx (w) rfl),λ vs _ _ w e=>by cases w;exact(aD (e)),.of (by decide)⟩,rfl,rfl⟩;have Az:=c.e.j9 T (c.e.L8 hP λ _ _ w=>(bZ Data.ctorIdx (w) rfl)) λ _ w=>(bZ Data.ctorIdx (w) rfl);have Xh:pn θ f.A n (z.to {z.s with heap:=d,toks:=r}):=pn.imp (z:=z) (λ b (y:fE θ z b)=>by rwa[cA y,U G H];try clear y;rwa[ac H,o Q O,-H];exact(bN U G ⟨o,T.gc Q λ w=>O #[] (w▸rfl),O⟩)) c.a
 rwa[ac (D.grow (tabObj (#[]++ #[rawInt pos.line,rawInt pos.col,.ref p])) rfl),B B1 B2];have t:∀b o,θ.base.get? b=some o->B.get? b=some o:=λ b o e=>(B2 b λ w=>dk ((w▸e).symm.trans D.none)).trans e;have x:HQ θ (z.to {z.s with heap:=d,toks:=r}) B:=⟨t,λ b o e=>by
  by_cases w:b=Pt
  ·subst w;obtain rfl:=an (B1.symm.trans e);exact .inr (bN JP htb ⟨_,rfl⟩)
  ·exact .inl ((B2 b w).symm.trans e)⟩
 rwa[aK (Az.cells told q hq),U H];rwa[ac H,uO b7 O];try clear H;rwa[ac b7,oq G Q,-b7]
 have hsq:fE θ (z.to {z.s with heap:=d,toks:=r}) q:=(bN U ((c.st.zA told q v hq).2) ⟨oq,G,λ _ w=>bZ Data.ctorIdx (Q.symm.trans w) rfl⟩);have J:=(T.sim S).ph (q:=q) hn x;have Qe:=Az.ph (q:=q) (B:=B) v rfl;have Bu:=lH.ph v rfl hq x Az c.st;have QJ:=Xh.ph x hsq;rwa[ac (O (λ w=>uD NameKind.ctorIdx ((c.st.kinds told _ v (by decide)).symm.trans w) rfl) j _ (by unfold cG;exact aU v rfl) hj hl),u hu ru,hu];rwa[ac (RV.gS ru),b F4 hb,F4];have hF:(d.push m).get? d.objs.size=some m:=Heap.get?_push_size _ (by exact aU RM rfl);have fr:∀b,d.objs.size<=b->d.get? b=none:=λ b hb=>Heap.get?_none_of_le hb;have A1:z.own p=none:=(S.fresh (Heap.get?_none_of_le hge)).1;have nc:=Nat.ne_of_lt lL;have nq:=Nat.ne_of_lt (Heap.lt_size G);have N:Nx (θ.ph q B) eH (z.to {z.s with heap:=d,toks:=r}) ⟨z.φ++[d.objs.size],de z.own d.objs.size z.σ.length,z.σ++[.tell l],{z.s with heap:=d.push m,toks:=r}⟩:=by
  refine ec.alloc J (λ _ _ e=>Heap.get?_push_of_some _ e) rfl rfl (λ b j e=>(if_neg λ w=>?_).trans e) (λ b j e Y=>?_) (if_pos rfl) λ _=>?_
  ·exact aD (((J.fresh (fr b (Nat.le_of_eq w.symm))).1.symm.trans e))
  ·by_cases w:b=d.objs.size
   ·subst w;exact(bN ((an ((if_pos rfl).symm.trans Y)).symm) (fr _ (Nat.le_refl _)) ⟨m,hF,.of (by exact aU RM (by decide:(Value.type "function")≠ .type "tuple"))⟩)
   ·exact dk (((if_neg w).symm.trans Y).symm.trans e)
  ·exact(Jc b q p m _ ⟨lW (List.prefix_append _ _) hb,(if_neg nq).trans U,rfl,(aw oq (Heap.get?_push_of_some _ G) Q),hF,(if_neg nc).trans A1,by exact aU RM rfl,⟨rfl,hH (qualnameIn f.env name name) g ((mg "__name__").getD .none) p Zm⟩,rfl,Vw.push _⟩)
 refine nH (i:=i) (a:=.ref z.σ.length) (f:=⟨f.A,f.env,jn f.sc⟩) (L:=Loc f.env) Bu.wr (Cx.go ⟨Bu,QJ,Qe,J⟩ N) ?_ (jA.trans hi) (.ref ?_) λ s' N' Y=>?_
 ·show iD (jn f.sc) name=true;unfold iD;rw[fV,hs,Option.map_some,if_neg iI]
  rfl
 ·show(z.φ++[_])[z.σ.length]?= _;rw[List.getElem?_append_right (Nat.le_of_eq S.len),S.len,Nat.sub_self];rfl
 ·exact h B _ t ⟨_,B1⟩ ((Cx.go ⟨Bu,QJ,Qe,J⟩ N).at N' Y) rfl (N'.go.gens.trans N.go.gens) (N'.go.os.trans N.go.os)
end
end
section
open PySem PyProof.Rows PySem.W Builtin Builtin.ObjectAttr
section
variable{prog:Program}{w:World}{A:Around}{X:Value->Shared->Prop}{h:Heap}{g:Array GenState}{d:Drawn}{t:Nat}{os:OsState}{K:Frag}{C e dx:Addr}{cd:ClassData}{oe:Obj}{mA:Str->Option Value}{u:Value}{vs:Array Value}
theorem Gq(FB:ExcAttrFacts "Exception")(a:K.In h)(k:findIn K (.ref C) "__getattribute__" =some (some (.builtin "BaseException.__getattribute__")))(c:findIn K (.ref C) "__getattr__" =some none)(r:findIn K (.ref C) "word" =some none)
  (q:clsIn K C=some cd) (p:mroIn K C (.type "BaseException")=some true) (L:cd.hasDict=true) (f:h.get? e=some oe) (i:oe.cls=.ref C) (s:oe.dict=some dx) (o:oe.data=.fields vs) (l:h.Ns1 dx mA) (m:mA "word" =some u) (J:handedOut u=pure u)
  (H:Q u ⟨h,g,d,t+1,os⟩):wpAny (model prog w) A (getAttr (.ref e) "word" true) Q X ⟨h,g,d,t,os⟩:=by
 have b:Looks (model prog w) h (typeOf (.ref e)) (.ref C):=i▸ (Looks.ld f).andThen .now;have j:=looks_findIn (M:=model prog w) a k;have y:=looks_findIn (M:=model prog w) a c;have z:=looks_findIn (M:=model prog w) a r;have sub:Looks (model prog w) h (isInstance (.ref e) (.type "BaseException")) true:=b.andThen (looks_mroIn a p);unfold getAttr getAttrBy;refine wpAny_bind (wpAny_mkText (wpAny_holding (wpAny_bind (b.at (wpAny_bind (j.at ?_))))));have O:=FB.ga.bind (.ref e);have G:(Value.builtin "BaseException.__getattribute__" ==Value.builtin "object.__getattribute__")=false:=by decide+kernel
 have v:(onTheHeap (Value.ref C)&&Value.builtin "BaseException.__getattribute__" ==Value.builtin "object.__getattribute__")=false:=by exact aU G rfl
 have n:builtinKind "BaseException.__getattribute__" =some .slot:=by decide+kernel
 have B:splitId "BaseException.__getattribute__" =some ("BaseException","__getattribute__"):=by decide+kernel
 dsimp only
 erw[if_neg (by rw[v];decide)]
 unfold getAttrByItsOwn
 repeat any_goals first|assumption|with_reducible refine b.at ?_|with_reducible refine j.at ?_|with_reducible refine y.at ?_|wp_step
 refine codeAny_call_builtin FB.ga.plain F.entry_bexc_ga (@check_slot (model prog w) _ _ ⟨h,g,d,t+1,os⟩ "BaseException.__getattribute__" "BaseException" "__getattribute__" (.ref e) [.str "word" t] [] _ n B sub (F.args_bexc_ga _ _) ?_);unfold Builtin.«object.__getattribute__» find ownThenClass inOwnDict
 repeat any_goals first|assumption|with_reducible refine b.at ?_|with_reducible refine z.at ?_|wp_step
 erw[o]
 unfold instanceDict;have x:=looks_clsIn (M:=model prog w) a q
 repeat any_goals first|assumption|with_reducible refine wpAny_loadPart_at f ?_;erw[i]|with_reducible refine x.at ?_|wp_step
 erw[s]
 unfold inDict
 repeat any_goals first|assumption|with_reducible refine wpAny_nsGet l.ns ?_;erw[m]|wp_step
end
end
section
open PySem PyProof.Rows PySem.W PySem.SeqAt
structure lh(base:Heap)(C:Addr)(K:Frag)(cd:ClassData)(mg:Str->Option Value):Prop where
 X0:K.In base
 cls:∃ (r:KG) (bm:List Value) (i:String),base.get? C=some (Qf r C bm i)∧bm.contains (.type "BaseException")=true
 ga:findIn K (.ref C) "__getattribute__" =some (some (.builtin "BaseException.__getattribute__"))
 ng:findIn K (.ref C) "__getattr__" =some none
 wd:findIn K (.ref C) "word" =some none
 WR:clsIn K C=some cd
 hb:mroIn K C (.type "BaseException")=some true
 hd:cd.hasDict=true
 ns:base.Ns mainGlobals mg
 nm:mg "AdaRaise" =some (.ref C)
noncomputable def wH(c:List Value)(L:List Int):Prop:=c.length=L.length/\∀ (j:Nat) (x:Int),L[j]?= some x->∃t,c[j]?= some (.int x t)
theorem wH.of(r:et P h i (L.map .int) c):wH c L:=by refine⟨by rw[← r.length,bo],λ j x e=>?_⟩;refine ac (r.get (show(L.map V.int)[j]?= some (.int x)by erw[cg,e];rfl)) λ w g d=>?_;exact aW (show ∃t,w=.int x t from RV.is d) λ t q=>⟨t,g.trans (congrArg some q)⟩
theorem wH.eq(h:wH d L)(h':wH g L)(l:s.heap.IsList p d.toArray)(u:s.heap.IsList q g.toArray)(v:A.units<cLine):RcAt A s (.ref p) (.ref q) true:=by
 have r:=RcAt.lists (e:=λ _=>true) l u (h.1.trans h'.1.symm) v λ j k B=>by
  have i:j<L.length:=h.1▸k;rwa[aW (h.2 j _ (bT i)),t x];rwa[aW (h'.2 j _ (bT i)),o w];have c:d.toArray[j]=.int L[j] t:=(cw.mp x).2;have y:g.toArray[j]=.int L[j] o:=(cw.mp w).2
  erw[c,y,show true=(L[j]==L[j])by simp]
  exact EqAt.int_int _ _ _ _
 rw[wC]at r;exact r
section
variable{base h h':Heap}{a b:Addr}{m mA:Str->Option Value}
theorem iw.ns(x:iw base h h')(n:h.Ns a m):h'.Ns a m:=by rwa[cy n,o d g i c r,-n];exact(x.keep a o i λ j w=>bZ Data.ctorIdx (c.symm.trans w) rfl).elim λ _ e=>(gN _ d g e c r)
theorem iw.cell(x:iw base h h')(n:h.IsCell a v):h'.IsCell a v:=by rwa[ac n,o d c,-n];exact(x.keep a o d λ g w=>bZ Data.ctorIdx (c.symm.trans w) rfl).elim λ _ e=>(aw _ e c)
theorem iw.list(x:iw base h h')(n:h.IsList a j):h'.IsList a j:=by rwa[bR n,o i c g];try clear n;rwa[aW g,k d,-g];exact(x.keep a o i λ l w=>bZ Data.ctorIdx (d.symm.trans w) rfl).elim λ _ e=>(cR _ e c ⟨k,d⟩)
theorem BV(n:h.Ns a m)(c:h.Ns a d)(x:Str):m x=d x:=by
 rwa[ig n,o u v l k _ j,-n];rwa[ig c,p r w i g _ e,-c];obtain rfl:=an (l.symm.trans i)
 cases k.symm.trans g
 exact(j x).symm.trans (e x)
end
section
variable{θ:Th}{f:Fm}{n:Nat}{ρ:Env}{z z':Z}{a q b1 b2:Addr}{wd:Str}{t:Tok}{K:Frag}{cd:ClassData}{mg m:Str->Option Value}{L:List Int}{Q:PySem.Flow->Shared->Prop}{X:Value->Shared->Prop}{s s':Shared}
structure Hs(θ:Th)(z':Z)(f:Fm)(a q b1 b2:Addr)(wd:Str)(m:Str->Option Value)(L:List Int)(s:Shared):Prop where
 old:∀b o,θ.base.get? b=some o->s.heap.get? b=some o
 gens:s.gens=z'.s.gens
 os:s.os=z'.s.os
 ns:s.heap.Ns f.env.locals m
 cell:s.heap.IsCell q (some (.ref b1))
 l1:∃ws,s.heap.IsList b1 ws.toArray/\wH ws L
 l2:∃ws,s.heap.IsList b2 ws.toArray/\wH ws L
 exc:Ew θ (z'.to s) a wd
theorem Hs.step(H:Hs θ z' f a q b1 b2 wd m L s)(S:oa θ (z'.to s))(R:Rec θ (z'.to s) a wd s'):Hs θ z' f a q b1 b2 wd m L s'/\oa θ (z'.to s'):=
 ⟨⟨λ b o e=>(S.upd R.upd).old b o e,R.gens.trans H.gens,R.os.trans H.os,R.upd.ns H.ns,R.upd.cell H.cell,H.l1.imp λ _ y=>⟨R.upd.list y.1,y.2⟩,H.l2.imp λ _ y=>⟨R.upd.list y.1,y.2⟩,R.exc⟩,S.upd R.upd⟩
theorem xK(i:lh θ.base (θ.P.ca 4) K cd mg)(p:f.env.scope.kind=.function)(hg:f.env.globals=mainGlobals)(Yv:θ.base.get? f.env.locals=none)(hu:f.A.units+10<cLine)
  (k1:f.env.kindOf "AdaRaise" =some .globalImplicit) (J:f.env.kindOf "fault" =some .local) (k3:f.env.kindOf "due" =some .local) (k4:f.env.kindOf "log" =some .local) (k5:f.env.kindOf "told" =some .cell) (hq:f.env.cells.lookup told=some q)
  (v1:m "due" =some (.str wd t)) (v2:m "log" =some (.ref b2)) (H:Hs θ z' f a q b1 b2 wd m L s) (S:oa θ (z'.to s))
  (cT:∀s',(∀b o,θ.base.get? b=some o->s'.heap.get? b=some o)->s'.gens=z'.s.gens->s'.os=z'.s.os->Q (.ret (.bool true)) s'):
  wpAny (model θ.prog θ.w) f.A (handleBy (.ref a) f.env [.ExceptHandler (some (.Name "AdaRaise" p1)) (some "fault")
   [.Return (some (.BoolOp .And [.Compare (.Attribute (.Name "fault" p2) "word" p3) [.Eq] [.Name "due" p4] p5,.Compare (.Name "told" p6) [.Eq] [.Name "log" p7] p8] p9)) Fb] hp]) Q X s:=by
 rwa[iK i.cls,xr bm xi hC O];refine wpAny_handleBy_cons (codeAny_handlers_test ?_) (by intro q;cases q)
 refine Calls.Name_function_global p k1 (Calls.loadGlobal_global (by exact aU hg (i.ns.keeps H.old)) i.nm ?_) (by decide+kernel);rwa[nX (id H.exc),d vs oe mA e _];refine wpAny_excMatches_sub_self (H.old _ _ hC) e.at_ e.cls O (codeAny_handlers_suite_as ?_);rwa[jS (z:=z'.to s) H.exc,B qS];rwa[aK (H.step S qS),g Kv,-e];refine wpAny_storeName_local J g.ns (λ h' G v=>?_) (by exact aU p rfl);rwa[nX g.exc,d vs oe mA e _];have na:a≠f.env.locals:=λ w=>by rwa[cy g.ns,o es ep u r _];obtain rfl:=an (u.symm.trans (w▸e.at_));exact bZ Data.ctorIdx (r.symm.trans e.data) rfl
 have nd:d≠f.env.locals:=λ w=>by have:=BV g.ns (w▸e.ns.ns) "due";rw[v1,e.jd]at this;exact dk (this)
 have nb:∀b o,θ.base.get? b=some o->h'.get? b=some o:=λ b o w=>(v.2 b λ y=>dk ((y▸w).symm.trans Yv)).trans (g.old b o w);have lk:∀ {b ED},B.heap.IsList b ED->h'.IsList b ED:=fun{b ED} y=>by
  rwa[bR y,o u c bw];try clear y;rwa[aW bw,k r,-bw]
  refine(cR o ((v.2 b λ w=>?_).trans u) c ⟨k,r⟩);rwa[cy g.ns,o' es ep Y U _];obtain rfl:=an (Y.symm.trans (w▸u));exact bZ Data.ctorIdx (r.symm.trans U) rfl
 have lN:h'.IsCell q (some (.ref b1)):=g.cell.sameBut v λ w=>by rwa[ac g.cell,o u r];rwa[cy g.ns,o' es ep Y U _];obtain rfl:=an (Y.symm.trans (w▸u));exact bZ Data.ctorIdx (r.symm.trans U) rfl
 rwa[aW e.word,tw hw];rwa[ac g.l1,w1 i1 i2];rwa[ac g.l2,w2 j1 j2];have n1:(fun x=>if x= "fault" then some (Value.ref a)else m x) "due" =some (.str wd t):=(if_neg (by decide)).trans v1;have n2:(fun x=>if x= "fault" then some (Value.ref a)else m x) "log" =some (.ref b2):=(if_neg (by decide)).trans v2;show wpAny _ _ (do match ← exec (.Return _ Fb) f.env with| .next=>PySem.execs [] f.env|f=>pure f) _ _ _;refine wpAny_bind (wpAny_Return_some (wpAny_And2 (wpAny_Compare1 (Attribute_name (pS p J G (if_pos rfl) (by decide+kernel) ?_)))));refine Gq F.attr_Exception (i.X0.keeps nb) i.ga i.ng i.wd i.WR i.hb i.hd ((v.2 a na).trans e.at_) e.cls e.dict e.data (e.ns.at λ o w=>(v.2 d nd).trans w) hw rfl (pS p k3 G n1 (by decide+kernel) ?_);have EH:(f.A.mark (some (.ref a))).units<cLine:=by show f.A.units<cLine;exact iA (.j W0 W1) [.j (.a W0 (.c 10)) W1] (.l [1,1]) rfl hu
 have r1:=RcAt.str_str (A:=f.A.mark (some (.ref a))) (s:=⟨h',B.gens,B.drawn,B.toks+1+1,B.os⟩) wd tw wd t;rw[beq_self_eq_true]at r1;refine r1 _ _ _ _ (wpAny_truthy_bool ?_);refine wpAny_Compare1 (wpAny_Name (wpAny_loadName_cell p k5 hq lN (pS p k4 G n2 (by decide+kernel) ?_)) (by decide+kernel));refine wH.eq i2 j2 (lk i1) (lk j1) EH _ _ _ _ (wpAny_pure ?_);refine wpAny_nameGoes J G (by exact aU p rfl) λ Gc m' _ Vt=>cT _ (λ b o w=>(Vt.2 b λ y=>dk ((y▸w).symm.trans Yv)).trans (nb b o w)) ?_ ?_
 ·exact g.gens
 ·exact g.os
end
end
section
open PySem PyProof.Rows PySem.W
section
variable{θ:Th}{f:Fm}{n k:Nat}{ρ:Env}{z z':Z}{Q:V->St->Prop}{E:Str->St->Prop}{K:Value->Shared->Prop}{X:Value->Shared->Prop}{x:Expr}{x':Mine.E}{as:List Expr}{Ek:List Mine.E}{pos:Pos}{L:Addr->Prop}
theorem kR:dq θ L z no X:=λ _ _ _ h _=>h.elim
theorem Cx.down:∀k,Cx θ f (n+k) ρ z->Cx θ f n ρ z
 |0,c=>c
 |k+1,c=>Cx.down k c.less
theorem AJ(W:Wd θ)(J:Tb θ)(h:ew θ n k f)(B:mE θ n)(H:dD k f.sc x=some x')(d:dS (dD k f.sc) as=some Ek)(t:jY x=none)(c:Cx θ f (n+1) ρ z)
  (r:pw ((TI n).ev ρ x') (λ v s=>pw (v8 (TI n) ρ Ek) (λ g j=>pw (nj (TI n) FF CC v g) Q E j) no s) no z.σ) (G:Ends θ eH z (RZ θ) Q K) (y:dq θ eH z E X):wpAny (model θ.prog θ.w) f.A (eval (.Call x as [] pos) f.env) K X z.s:=
 jD t (h H c.less r (λ v u Y o i l=>kZ (gT d) (gp (gT d) (ly h d (c.less.go i) o (λ g O U m e rs=>by have N:=i.trans e;exact aK (sM W J B c.st.handled (c.go N).a e.sim (l.go e) rs m (G.after N) (y.after N)) λ p b=>(bN rfl p b)) kR))) kR)
structure Eu(sc:List (Str×NameKind))(E2 E1 Bw:List Stmt)(cf:Expr)(as:List Expr)(AU:Expr):Prop where
 t1:E2.map (nG 60 sc)=FI++(FH++(FG++[]))
 t2:E1.map (nG 60 (jn sc))=FE++[]
 t3:Bw.map (nG 60 (jn sc))=FD
 tc:dD 60 (jn sc) cf=some (.k (.fn 79))
 ta:dS (dD 60 (jn sc)) as=some [.v 12,.tup [.k (.str "aggr"),.v 4,.v 13,.v 6]]
 tt:rj (jn sc) AU=some (.one 14)
 na:jY cf=none
 i0:cC sc told=some 16
 i1:cC sc "tell" =some 11
 i2:cC sc "due" =some 10
 i3:cC sc "log" =some 9
 l0:sc.lookup told=some .cell
 l1:sc.lookup (Str.ofString "tell")=some .local
 l2:sc.lookup (Str.ofString "due")=some .local
 l3:sc.lookup (Str.ofString "log")=some .local
 l4:sc.lookup (Str.ofString "fault")=some .local
 l5:sc.lookup (Str.ofString "AdaRaise")=some .globalImplicit
end
section
variable{θ:Th}{f:Fm}{n k:Nat}{ρ:Env}{z z':Z}{X:Value->Shared->Prop}{sc:List (Str×NameKind)}{E2 E1 Bw:List Stmt}{cf:Expr}{as:List Expr}{AU:Expr}{KK:PySem.Flow->Shared->Prop}{q a:Addr}{K:Frag}{cd:ClassData}{mg:Str->Option Value}
 {t pa lg zP tl:Nat} {gv jd:V} {R:Out} {rs:List Rg} {gs:Option (List Rg)} {x0 x1 x2 x3 x5 x8:Option V} {p1 p2 p3 p4 p5 p6 p7 p8 p9 Fb hp tp ap cp:Pos}
theorem Ka(CW:lh θ.base (θ.P.ca 4) K cd mg)(T:Eu sc E2 E1 Bw cf as AU)(p:f.sc=jn sc)(F0:A9 f)(c:Cx θ f n ρ z)(k0:f.env.kindOf told=some .cell)(hq:f.env.cells.lookup told=some q)(v0:ρ[16]?= some (some (.ref zP)))(v1:ρ[10]?= some (some (.str G)))(v2:ρ[9]?= some (some (.ref lg)))
  (F:Fl θ eH z z' G a) (h1:Tl z'.σ zP R.2) (h2:Tl z'.σ lg R.2)
  (cT:∀g,(∀b o,θ.base.get? b=some o->g.heap.get? b=some o)->g.gens=z.s.gens->g.os=z.s.os->KK (.ret (.bool true)) g):
  wpAny (model θ.prog θ.w) f.A (noteFrame (.ref a) f.env) (fun _ aH=>wpAny (model θ.prog θ.w) f.A (setFlight (.ref a) none) (fun _ bf=>wpAny (model θ.prog θ.w) f.A (handleBy (.ref a) f.env [.ExceptHandler (some (.Name "AdaRaise" p1)) (some "fault")
   [.Return (some (.BoolOp .And [.Compare (.Attribute (.Name "fault" p2) "word" p3) [.Eq] [.Name "due" p4] p5,.Compare (.Name "told" p6) [.Eq] [.Name "log" p7] p8] p9)) Fb] hp]) KK X bf) X aH) X z'.s:=by
 rwa[ac c.e.ns,m J hm];rwa[aK (c.e.cells told q hq),g1 bw];rwa[ac bw,uO O g4,-bw];have t:∀ {x k},sc.lookup x=some k->x≠told->k≠ .free->f.env.kindOf x=some k:=fun{x k} e ne v=>c.st.kinds x k (by rw[p,fV,e,Option.map_some,if_neg ne]) v;have Y:=t T.l2 (by decide) (by decide);have U:=t T.l3 (by decide) (by decide);have B:∀ {x k},sc.lookup x=some k->k≠ .globalImplicit->cG f.sc x=false:=fun{x k} e v=>by erw[p,nT T.l0];unfold cG;exact aU e (beq_eq_false_iff_ne.mpr λ w=>v (an w))
 rwa[ac (g4 (λ w=>uD NameKind.ctorIdx (k0.symm.trans w) rfl) 16 _ (B T.l0 (by decide)) (by erw[p,jA];exact T.i0) v0),u0 b7 r0];subst b7;rwa[ac (hm "due" Y 10 _ (B T.l2 (by decide)) (by erw[p,jA];exact T.i2) v1),u1 e1 r1];rwa[ac (hm "log" U 9 _ (B T.l3 (by decide)) (by erw[p,jA];exact T.i3) v2),u2 e2 r2];rwa[ac (RV.gS r0),b1 r s0,r];rwa[ac (RV.gS r2),b2 r s2,r];rwa[aW (RV.iN r1),tw r,r];rwa[aK (F.sim.obj _ _ _ h1 (lW F.go.pre s0)),_ cH];rwa[ac cH,w1 i1 j1,-cH];rwa[aK (F.sim.obj _ _ _ h2 (lW F.go.pre s2)),_ dy];rwa[ac dy,w2 i2 j2,-dy];rwa[aW F0.fr,l H];rwa[ac c.a.frames,l' VY hl];obtain rfl:=an (H.symm.trans VY);have ua:=hl.imp λ _ y=>y.Wv F.go;refine pQ H ua F0.at_ F.sim F.exc λ ay d=>jS (z:=z'.to ay) d.exc λ aH Xq=>?_;have Kv:=F.sim.upd d.upd;have mC:Hs θ z' f a q b1 b2 G m R.2 ay:=by
  refine⟨Kv.old,d.gens,d.os,d.upd.ns ?_,d.upd.cell ?_,(aw w1 (d.upd.list i1) (.of j1)),(aw w2 (d.upd.list i2) (.of j2)),d.exc⟩
  ·rwa[cy J,o es ep u h n3,-J];exact aW (F.go.keep _ _ id c.e.pU u λ vs w=>bZ Data.ctorIdx (h.symm.trans w) rfl) λ sl e=>(gN _ es ep e h n3)
  ·rwa[ac O,o u h,-O];exact aW (F.go.keep _ _ id g1 u λ vs w=>bZ Data.ctorIdx (h.symm.trans w) rfl) λ sl e=>(aw _ e h)
 exact aK (mC.step Kv Xq) λ Xw qR=>xK CW c.st.kind c.st.globals c.st.yG (by have:=c.a.units;unfold cLine;exact iA (.j (.a W0 (.c 10)) (.c 9900)) [.i (.a W0 (.m 20 W1)) (.c 8000)] (.l [1,1]) rfl this) (t T.l5 (by decide) (by decide)) (t T.l4 (by decide) (by decide)) Y U k0 hq e1 e2 Xw qR λ g y1 y2 y3=>cT g y1 (y2.trans F.go.gens) (y3.trans F.go.os)
end
section
variable{θ:Th}{f:Fm}{n k:Nat}{ρ:Env}{z z':Z}{X:Value->Shared->Prop}{sc:List (Str×NameKind)}{E2 E1 Bw:List Stmt}{cf:Expr}{as:List Expr}{AU:Expr}{KK:PySem.Flow->Shared->Prop}{q a:Addr}{K:Frag}{cd:ClassData}{mg:Str->Option Value}
 {t pa lg zP tl:Nat} {gv jd:V} {R:Out} {rs:List Rg} {gs:Option (List Rg)} {x0 x1 x2 x3 x5 x8:Option V} {p1 p2 p3 p4 p5 p6 p7 p8 p9 Fb hp tp ap cp:Pos}
theorem Kb{n m:Nat}{ρ:Env}{Q:V→St→Prop}{E:Str→St→Prop}{s:St}{r t ad b:V}(j:(ρ[12]?).getD none=some r)(i:(ρ[4]?).getD none=some t)(g:(ρ[13]?).getD none=some ad)(e:(ρ[6]?).getD none=some b)(h:pw (nj (SS m) FF CC (.fn 79) [r,.tup [.str "aggr",t,ad,b]]) Q E s):
  pw ((SS (n+2)).ev ρ (.k (.fn 79))) (fun v s=>pw (v8 (SS (n+2)) ρ [.v 12,.tup [.k (.str "aggr"),.v 4,.v 13,.v 6]]) (fun c d=>pw (nj (SS m) FF CC v c) Q E d) no s) no s:=by
 erw[ag,ah,af,j,aj,aA,ah,bX,ah,ag,aA,ah,af,i,aj,aA,ah,af,g,aj,aA,ah,af,e,aj,aA,ai,ao,ao,ao,ao,xp,aA,ai,ao,ao]
 exact h
theorem LB(W:Wd θ)(Tt:Tb θ)(RK:gw θ)(CW:lh θ.base (θ.P.ca 4) K cd mg)(T:Eu sc E2 E1 Bw cf as AU)(i:f.sc=jn sc)(F0:A9 f)(c:Cx θ f 90 ρ z)(k0:f.env.kindOf told=some .cell)(hq:f.env.cells.lookup told=some q)
  (h:XC t pa U j tl gv Y R rs gs x0 x1 x2 x3 x5 x8 (.next,ρ) z.σ)
  (cT:∀d,(∀b o,θ.base.get? b=some o->d.heap.get? b=some o)->d.gens=z.s.gens->d.os=z.s.os->KK (.ret (.bool true)) d):
  wpAny (model θ.prog θ.w) f.A (PySem.execs (.Try [.Assign [AU] (.Call cf as [] cp) ap] [.ExceptHandler (some (.Name "AdaRaise" p1)) (some "fault")
   [.Return (some (.BoolOp .And [.Compare (.Attribute (.Name "fault" p2) "word" p3) [.Eq] [.Name "due" p4] p5,.Compare (.Name "told" p6) [.Eq] [.Name "log" p7] p8] p9)) Fb] hp] [] [] tp::Bw) f.env) KK X z.s:=by
 rwa[aK h,_ bw];try clear h;rwa[DK bw,r nd lim ad g L wo y Wj,-bw]
 have g:ρ=_:=g;have v0:ρ[16]?= some (some (.ref j)):=by exact aU g rfl
 have v1:ρ[10]?= some (some Y):=by exact aU g rfl
 have v2:ρ[9]?= some (some (.ref U)):=by exact aU g rfl
 have J:=s8 W Tt RK;show wpAny _ _ (do match ← exec (.Try _ _ _ _ tp) f.env with| .next=>PySem.execs Bw f.env|f=>pure f) _ _ _;refine wpAny_bind (wpAny_Try_except ?_);show wpAny _ _ (do match ← exec (.Assign [AU] _ ap) f.env with| .next=>PySem.execs [] f.env|f=>pure f) _ _ _;have p:=i▸T.tt;have hw:((jF AU).isSome&& (jF (.Call cf as [] cp)).isSome)=false:=Bool.and_false _;refine wpAny_bind (gF rfl (lV hw p) (pR p) ?_);have Vx:=lq (Ii L wo y Wj);refine AJ (n:=76) W Tt ((J 76).e 60 f) ((J 76).s) (by exact aU i T.tc) (by exact aU i T.ta) T.na (Cx.down (n:=77) 13 c) (Q:=λ v d=>∃x,(ii R rs).1=.ok x/\jq z.σ.length d v x.1 (bC x.2)/\Tl d j R.2/\Kp [j] z.σ d)
  (E:=λ w d=>Y=.str w/\Tl d j R.2/\Tl d U R.2) (Kb (n:=74) (m:=76) (by exact aU g rfl) (by exact aU g rfl) (by exact aU g rfl) (by exact aU g rfl) Vx) (λ v u H qv N ra=>?_) λ wd a H ⟨B,e2,e3⟩ F=>?_
 ·refine fk c.st.wr (Q:=λ G d=>G=ρ.set 14 (some v)/\d=H.σ) (E:=no) (c.go N) p ra (pO ⟨rfl,rfl⟩) λ G d ⟨B,_⟩ N' e'=>wpAny_pure (wpAny_pure ?_);subst B;have h4:=lq (Ih (t:=t) (pa:=pa) (tl:=tl) (r:=r) (a:=ad) (x0:=x0) (x1:=x1) (x2:=x2) (x3:=x3) (x5:=x5) (x8:=x8) L qv);have O:=N.wide.trans N';refine iC (k:=60) (n:=90) (λ st=>(J 90).s F0 st) Bw (z:=H.to d) (Q:=λ x _=>x.1=.ret (.bool true)) (E:=no) (c.at O e') ?_ (λ fl G z' F e l _ r=>?_) kR
  ·erw[i,T.t3,g];exact h4
  ·have e:=e;subst e;rwa[ac (HS.inv r),u q r];obtain rfl:=RV.fK r;subst q;exact cT _ l.sim.old (l.go.gens.trans O.go.gens) (l.go.os.trans O.go.os)
 ·subst B;exact Ka (sc:=sc) CW T i F0 c k0 hq v0 v1 v2 F e2 e3 λ d y1 y2 y3=>wpAny_pure (cT d y1 y2 y3)
end
section
variable{θ:Th}{f:Fm}{n k:Nat}{ρ:Env}{z z':Z}{X:Value->Shared->Prop}{E2 E1 Bw:List Stmt}{cf:Expr}{as:List Expr}{AU:Expr}{KK:PySem.Flow->Shared->Prop}{q a Pt cdd:Addr}{K:Frag}{cd:ClassData}{mg mg':Str->Option Value}{params:Arguments}{body:List Stmt}{scope:Scope}{xs:List Int}
 {p1 p2 p3 p4 p5 p6 p7 p8 p9 Fb hp tp ap cp pos:Pos}
theorem IX(o:d4):Kp [] s (s++[o]):=⟨by exact aU List.length_append (Nat.le_add_right _ _),λ b x _ e=>by exact aU (List.getElem?_append_left (cw.mp e).1) e⟩
theorem Co(W:Wd θ)(Tt:Tb θ)(RK:gw θ)(all:∀q (B:Heap),(∀b o,θ.base.get? b=some o->B.get? b=some o)->Wd (θ.ph q B)/\Tb (θ.ph q B)/\gw (θ.ph q B)/\lh B (θ.P.ca 4) K cd mg')(T:Eu f.sc E2 E1 Bw cf as AU)(D:Kz θ f mg cdd Pt)(x:A9 f)(c:Cx θ f 90 ρ z)(hn:θ.P.cl=none)
  (Y:z.s.heap.get? Pt=some (tabObj #[])) (JP:z.own Pt=none) (r: ¬ Loc f.env Pt) (qX:ρ=eI (some (.ke xs)) none none none none none none none none none none none none none none none none) (U:f.env.cells.lookup told=some q)
  (d0:params.defaults=[]) (k0:params.kw_defaults=[]) (a0:annTrees params none f.env=[]) (uc:closureFor scope f.env=pure [(told,q)])
  (hH:∀vb u pm c' ct,θ.P.tl (fnX "tell" vb params body scope [(told,q)] .none .none u pm none (.ref c') ct))
  (cT:∀d (B:Heap),(∀b o,θ.base.get? b=some o->B.get? b=some o)->(∃ps,B.get? Pt=some (tabObj ps))->(∀b o,B.get? b=some o->d.heap.get? b=some o)->d.gens=z.s.gens->d.os=z.s.os->KK (.ret (.bool true)) d):
  wpAny (model θ.prog θ.w) f.A (PySem.execs (E2++(.FunctionDef "tell" params body [] none [] scope none "tell" p::(E1++(.Try [.Assign [AU] (.Call cf as [] cp) ap] [.ExceptHandler (some (.Name "AdaRaise" p1)) (some "fault")
   [.Return (some (.BoolOp .And [.Compare (.Attribute (.Name "fault" p2) "word" p3) [.Eq] [.Name "due" p4] p5,.Compare (.Name "told" p6) [.Eq] [.Name "log" p7] p8] p9)) Fb] hp] [] [] tp::Bw)))) f.env) KK X z.s:=by
 have Sn:=s8 W Tt RK;refine mu (k:=60) (λ st=>(Sn 90).s x st) E2 (Q:=ZE xs) (E:=no) c (by erw[T.t1,qX];exact lq plain1) (λ fl y j h N Az=>?_) kR;rwa[aK h,e bw];try clear h;rwa[Gw bw,x1 x2 x3 t x5 G gv x8 H O g R rs gs i L,-bw]
 have i:y=_:=i;refine⟨e,?_⟩;have GC:=c.at N Az;show wpAny _ _ (do match ← exec (.FunctionDef "tell" params body [] none [] scope none "tell" p) f.env with| .next=>PySem.execs _ f.env|f=>pure f) _ _ _;refine wpAny_bind (GB (l:=g) D GC hn (N.go.keep _ _ r JP Y) (N.go.stays Y JP) d0 k0 a0 uc T.l0 U T.i0 (by exact aU i rfl) T.i1 T.l1 (by decide) hH λ B bu B1 B2 J Yh hg ho=>?_);rwa[ul (all q B B1),W' ZB ZC CW];have v:=s8 W' ZB ZC;have Jg:y.set 11 (some (.ref j.σ.length))=eI (some (.ke xs)) x1 x2 x3 (some (.ref t)) x5 (some (.ref G)) (some gv) x8 (some (.ref H)) (some O) (some (.ref j.σ.length)) none none none none (some (.ref g)):=by exact aU i rfl
 have Xr:=Yh▸L.kp (IX _);have ht:bu.σ[j.σ.length]?= some (.tell g):=by rw[Yh,List.getElem?_append_right (Nat.le_refl _),Nat.sub_self];rfl
 have F2:A9 ⟨f.A,f.env,jn f.sc⟩:=⟨x.fr,x.at_⟩;refine mu (f:=⟨f.A,f.env,jn f.sc⟩) (θ:=θ.ph q B) (k:=60) (λ st=>(v 90).s F2 st) E1 (Q:=XC t G H g j.σ.length gv O R rs gs _ _ _ _ _ _) (E:=no) J (by erw[T.t2,Jg];exact lq (plain2 Xr ht)) (λ fl G7 zI h m WH=>?_) kR;rwa[aK (id h),e h2];have e:=e;subst e;refine⟨rfl,LB (θ:=θ.ph q B) (f:=⟨f.A,f.env,jn f.sc⟩) W' ZB ZC CW T rfl F2 (J.at m WH) (c.st.kinds _ _ T.l0 (by decide)) U h λ d y1 y2 y3=>cT d B B1 B2 y1 ?_ ?_⟩
 ·exact y2.trans (m.go.gens.trans (hg.trans N.go.gens))
 ·exact y3.trans (m.go.os.trans (ho.trans N.go.os))
end
theorem uL:∀ {ns:List Str} {b:List Value} {n:Str},b.length=ns.length->n∈ns->((ns.zip b).lookup n).isNone=false
 |a::ns,v::b,n,h,c=>by
  erw[List.zip_cons_cons,List.lookup_cons]
  cases q:n==a with
  |true=>rfl
  |false=>
   rcases List.mem_cons.mp c with e|e
   ·subst e;rw[beq_self_eq_true]at q;exact bZ Bool.ctorIdx (q) rfl
   ·exact uL (Nat.succ.inj h) e
 | [],_,_,_,c=>bQ (c)
 |_::_,[],_,h,_=>nomatch h
theorem v5:∀ {l:List α},(∀n∈l,f n=g n)->l.filterMap f=l.filterMap g
 | [],_=>rfl
 |a::l,h=>by erw[List.filterMap_cons,List.filterMap_cons,h a (.head _),v5 λ n b=>h n (.tail _ b)];rfl
theorem uM:∀ {ns:List Str} {vs:List Value},ns.Nodup->vs.length=ns.length->ns.filterMap (λ n=>((ns.zip vs).lookup n).map λ v=>(n,v))=ns.zip vs
 | [],_,_,_=>by simp
 |a::ns,[],_,h=>nomatch h
 |a::ns,v::vs,b,h=>by
  obtain ⟨d,c⟩:=List.nodup_cons.mp b;rw[List.zip_cons_cons,List.filterMap_cons,List.lookup_cons_self,Option.map_some];have f:=uM (vs:=vs) c (Nat.succ.inj h);refine congrArg ((a,v):: ·) (Eq.trans (v5 λ n i=>?_) f);have g:(n==a)=false:=beq_eq_false_iff_ne.mpr λ e=>d (e▸i)
  erw[List.lookup_cons,g];rfl
theorem Hw(h:c=false)(e:b=r):(if c=true then a else b)=r:=by subst h;exact e
theorem jX(h:f.params=⟨[],a,none,[],q,none,s⟩)(j:f.defaults=.none)(g:(a.map (·.arg)).Nodup)(d:b.length=(a.map (·.arg)).length):
  bindArgs f ⟨b,[]⟩=pure ((a.map (·.arg)).zip b):=by
 obtain ⟨p,m,o,w,l,r,u,t⟩:=f;subst h;subst j;generalize e:a.map (·.arg)=ns at g d ⊢;have k:(ns.filter λ n=>((ns.zip b).lookup n).isNone)=[]:=by rw[List.filter_eq_nil_iff];intro n i;rw[uL d i];decide
 refine Hw (c:=decide (b.length >(a.map Arg.arg).length)&&true) ?_ ?_
 ·rw[e,Bool.and_true];exact bA (by rw[d];exact Nat.lt_irrefl _)
 ·refine Hw ?_ ?_
  ·show(!(((a.map Arg.arg).take ((a.map Arg.arg).length - (List.drop (([]:List Value).length - (a.map Arg.arg).length) ([]:List Value)).length)).filter λ n=>(((a.map Arg.arg).zip b).lookup n).isNone).isEmpty)=false;rw[e,List.drop_nil,List.length_nil,Nat.sub_zero,List.take_length,k];rfl
  ·show(forIn (((a.map Arg.arg).drop ((a.map Arg.arg).length - (List.drop (([]:List Value).length - (a.map Arg.arg).length) ([]:List Value)).length)).zip (List.drop (([]:List Value).length - (a.map Arg.arg).length) ([]:List Value))) ((a.map Arg.arg).zip b) _ >>= _)=_
   erw[List.drop_nil,List.zip_nil_right]
   show(pure (((a.map Arg.arg)++[]).filterMap λ n=>(List.lookup n ((a.map Arg.arg).zip b)).map λ v=>(n,v)):Sem _)=_;rw[e,List.append_nil,uM g d]
noncomputable def eF(e:Stmt):List Stmt:=if h:e.ctorIdx=0 then Stmt.FunctionDef.elim e h (λ _ _ b _ _ _ _ _ _ _=>b)else []
noncomputable def iQ(e:Stmt):Scope:=if h:e.ctorIdx=0 then Stmt.FunctionDef.elim e h (λ _ _ _ _ _ _ s _ _ _=>s)else default
noncomputable def e8(e:Stmt):Arguments:=if h:e.ctorIdx=0 then Stmt.FunctionDef.elim e h (λ _ a _ _ _ _ _ _ _ _=>a)else default
noncomputable def Di:Data->Option FuncData
 | .func b=>some b
 |_=>none
theorem Aw(h:Di d=some b):d=.func b:=by rcases d with ⟨⟩<;> first|exact congrArg Data.func (an h)|exact aD h
noncomputable def Gg(o:Obj):Option Obj:=(Di o.data).map λ b=>{cls:=o.cls,data:=.func {b with name:=Str.empty,kwdefaults:=.none,doc:=.none,pyModule:=.none,annotations:=none,closureTuple:=.none}}
noncomputable def Gh(st:Stmt)(q:Str)(a:Addr)(dV:Value):Obj:=
 {cls:=.type "function",data:=.func {name:=Str.empty,qualname:=q,params:=e8 st,body:=.stmts (eF st),scope:=iQ st,globals:=mainGlobals,closure:=[],defaults:=dV,kwdefaults:=.none,code:=.ref (a - 1),builtins:=builtinsNs}}
noncomputable def oP(o:Obj):Option Obj:=match o.data with
 | .fields vs=>(match (vs[1]? :Option Value)with
  |some (.str q _)=>some {cls:=.none,data:=.prim (.str q 0)}
  |_=>none)
 |_=>none
noncomputable def J6(q:Str):Obj:={cls:=.none,data:=.prim (.str q 0)}
noncomputable def Fi(names:List Str)(o:Obj):Option Obj:=match o.data with
 | .dict b _=>(match b.all (λ e=>match e.key with| .str _ _=>true|_=>false)with
  |true=>some {cls:=.none,data:=.plain,slots:=(names.map (nsFind b)).toArray}
  |false=>none)
 |_=>none
noncomputable def Hg(vs:List (Option Value)):Obj:={cls:=.none,data:=.plain,slots:=vs.toArray}
section
variable{h:Heap}{a N:Addr}{st:Stmt}{q:Str}{dV:Value}{names:List Str}{vs:List (Option Value)}{θ:Th}{g:Fn}
theorem vx{α b c:Type}{f:b->Option c}{g:α->b}:∀ {l:List α},dS f (l.map g)=dS (λ a=>f (g a)) l
 | []=>rfl
 |a::l=>by show(f (g a)).bind _=(f (g a)).bind _;exact aU vx rfl
theorem nU(e:(h.get? a).bind Gg=some (Gh st q a dV)):∃o b,h.get? a=some o∧o.data=.func b∧o.cls=.type "function" ∧b.qualname=q∧b.params=e8 st∧b.body=.stmts (eF st)∧b.scope=iQ st∧b.globals=mainGlobals∧b.closure=[]∧b.defaults=dV∧b.code=.ref (a - 1)∧b.builtins=builtinsNs:=by rwa[ac (aE e),o j i];rwa[ac (bc i),b f d];have c:=PySem.Data.func.inj (congrArg Obj.data d);exact y7 o b j (Aw f) (congrArg Obj.cls d) (congrArg FuncData.qualname c) (congrArg FuncData.params c) (congrArg FuncData.body c) (congrArg FuncData.scope c) (congrArg FuncData.globals c) (congrArg FuncData.closure c) (congrArg FuncData.defaults c) (congrArg FuncData.code c) (congrArg FuncData.builtins c)
theorem wm(e:(h.get? a).bind oP=some (J6 q)):h.CodeRec (.ref a) q:=by
 rwa[ac (aE e),o f b];unfold oP at b
 split at b
 ·rename_i vs d
  split at b
  ·rename_i i t c
   cases b
   exact(me a o vs t rfl f d c)
  ·exact aD (b)
 ·exact aD (b)
theorem xh(e:(h.get? N).bind (Fi names)=some (Hg vs)):∃c,h.Ns N c/\names.map c=vs:=by
 rwa[ac (aE e),o l b];unfold Fi at b
 split at b
 ·rename_i d n k
  split at b
  ·rename_i i;refine(aw (nsFind d) (gM o d n l k (λ e j=>?_) (λ _=>rfl)) ?_)
   ·have:=Array.all_eq_true_iff_forall_mem.mp i e j
    split at this
    ·rename_i x t f;exact(im x t f)
    ·exact bZ Bool.ctorIdx (this) rfl
   ·exact List.toArray_inj (Obj.mk.inj (an b)).2.2.2
  ·exact aD (b)
 ·exact aD (b)
noncomputable def xe(p:Arguments):Bool:=p.posonlyargs.isEmpty&& (p.vararg.isNone&& (p.kwonlyargs.isEmpty&&p.kwarg.isNone))
theorem rZ(h:xe p=true):p=⟨[],p.args,none,[],p.kw_defaults,none,p.defaults⟩:=by
 obtain ⟨i,l,f,e,k,d,j⟩:=p;have h:=bV h;have c:=bV h.2;have b:=bV c.2;obtain rfl:i=[]:=List.isEmpty_iff.mp h.1;obtain rfl:f=none:=Option.isNone_iff_eq_none.mp c.1;obtain rfl:e=[]:=List.isEmpty_iff.mp b.1;obtain rfl:d=none:=Option.isNone_iff_eq_none.mp b.2
 rfl
noncomputable def xd(s:Scope):Bool:=s.kind==.function&& (!s.isGenerator&& !s.isCoroutine)
theorem rY(h:xd s=true):s.kind=.function/\s.isGenerator=false/\s.isCoroutine=false:=
 have h:=bV h;have b:=bV h.2
 bN (beq_iff_eq.mp h.1) (Bool.not_eq_true' _▸b.1) (Bool.not_eq_true' _▸b.2)
noncomputable def xP(st:Stmt):Bool:=(xe (e8 st)&&xd (iQ st))&& (decide (((e8 st).args.map (·.arg)).Nodup)&& (((e8 st).args.map (·.arg)).all (λ y=> !cG (iQ st).names y)&& (iQ st).names.all λ p=>p.2==.local || (p.2==.cell || p.2==.globalImplicit)))
theorem Gi(h:xP st=true):∃b k n,e8 st=⟨[],b,none,[],k,none,n⟩/\(b.map (·.arg)).Nodup/\(∀y∈b.map (·.arg),cG (iQ st).names y=false)/\Kx (iQ st):=by
 have h:=bV h;have e:=bV h.1;have d:=bV h.2;have c:=bV d.2;rwa[cA (rY e.2),j i f];refine gM _ _ _ (rZ e.1) (of_decide_eq_true d.1) (λ y l=>?_) ⟨f,i,j,λ p m=>?_⟩
 ·exact Bool.not_eq_true' _▸List.all_eq_true.mp c.1 y l
 ·have:=List.all_eq_true.mp c.2 p m;rw[Bool.or_eq_true,Bool.or_eq_true]at this;exact this.imp beq_iff_eq.mp λ z=>z.imp beq_iff_eq.mp beq_iff_eq.mp
theorem uf(n:(θ.base.get? a).bind Gg=some (Gh st q a dV))(m:(θ.base.get? (a - 1)).bind oP=some (J6 q))(x:xP st=true)(k:zO (e8 st) (eF st) (iQ st)=some g):
  ∃o c b e f,o8 θ a g o c (eF st) (b.map (·.arg))/\c.params=⟨[],b,none,[],e,none,f⟩/\(b.map (·.arg)).Nodup/\c.defaults=dV:=by
 rwa[m9 (nU n),o c w v u t j s d r p H J G];rwa[ig (Gi x),b e f B A z y];rwa[ac (bc k),L i l];rw[B]at i j;subst l;refine(Jb o c b e f ⟨w,v,u,by erw[J,t];exact wm m,s,p,?_,by exact aU d z,by exact aU d rfl,by exact aU d rfl,by exact aU d y,r,G⟩ j A H);exact aU d (vx.trans i)
theorem Gj(i:(θ.base.get? a).bind Gg=some (Gh st q a .none))(f:(θ.base.get? (a - 1)).bind oP=some (J6 q))(n:xP st=true)(d:zO (e8 st) (eF st) (iQ st)=some g):FnAt θ a g:=by exact uj (uf i f n d) λ o j c p r h m l k=>⟨o,j,_,_,h,λ b e=>jX m k l e⟩
end
end
section
open PySem PyProof.Rows PySem.W PySem.Challenge
noncomputable def dA(i:Nat):Stmt:=(pw_pb0043_01.main.body[i]?).getD (.Pass default)
noncomputable def l9(e:Stmt):Str:=if h:e.ctorIdx=0 then Stmt.FunctionDef.elim e h (λ n _ _ _ _ _ _ _ _ _=>n)else if h:e.ctorIdx=2 then Stmt.ClassDef.elim e h (λ n _ _ _ _ _ _ _ _ _ _=>n)else Str.empty
noncomputable def fz(e:Stmt):Stmt:=if h:e.ctorIdx=2 then Stmt.ClassDef.elim e h (λ _ _ _ b _ _ _ _ _ _ _=>b.headD (.Pass default))else .Pass default
noncomputable def R1:List (Nat×Addr):=[(11,182),(15,194),(16,201),(17,208),(20,225),(21,232),(22,239),(23,246),(24,253),(25,260),(26,267),(31,317),(32,324),(33,331),(34,338),(35,345),(36,352),(37,359),(40,366),(41,373),(47,408),(50,422),(51,429),(52,436),(53,443),(54,450),(55,457),(57,462),(58,469),(59,476),(60,483),(62,490),(66,525),(68,532),(69,537),(71,544),(72,549),(73,554),(74,559),(75,566),(78,587),(79,594),(83,623),(84,630),(85,637),(86,644),(87,651),(88,658),(89,663),(90,670),(91,675),(92,680),(93,687),(94,694)]
noncomputable def K0(k:Nat):Addr:=(R1.lookup k).getD 0
noncomputable def uJ:List (Nat×Addr×Addr×Addr×Nat×Nat×Value):=[(7,124,123,114,310,318,.none),(8,145,144,142,346,354,.none),(29,285,284,282,560,568,.none),(30,306,305,303,610,618,.none),(64,507,506,504,882,890,.none),(81,612,611,609,1057,1065,.ref 602)]
noncomputable def K4(k:Nat):Addr:=((uJ.map λ r=>(r.1,r.2.1)).lookup k).getD 77
noncomputable def Dl:List (Stmt×Str×Addr×Value):=
 R1.map (fun p=>(dA p.1,l9 (dA p.1),p.2,.none))++(uJ.map (fun r=>(fz (dA r.1),l9 (dA r.1)++ ".__init__",r.2.2.2.1,r.2.2.2.2.2.2))++
  [(fz (dA 2),Str.ofString "AdaError.__init__",35,.none),(fz (dA 4),Str.ofString "AdaRaise.__init__",74,.none),(dA 95,Str.ofString "law",701,.none)])
noncomputable def WP:List Str:=Str.ofString "__init__" ::Str.ofString "__getattribute__" ::Str.ofString "__setattr__" ::bH
theorem Z0:R0.map (λ p=>(Nat.beq p.1 1000,(xP (dA p.1),zO (e8 (dA p.1)) (eF (dA p.1)) (iQ (dA p.1)))))=R0.map (λ p=>match Nat.beq p.1 1000 with|true=>(true,(xP (dA p.1),zO (e8 (dA p.1)) (eF (dA p.1)) (iQ (dA p.1))))|false=>(false,(true,some p.2))):=by kernel_rfl
theorem ZZ:Qs.map (λ p=>(xP (fz (dA p.1)),zO (e8 (fz (dA p.1))) (eF (fz (dA p.1))) (iQ (fz (dA p.1)))))=Qs.map (λ p=>(true,some p.2)):=by kernel_rfl
noncomputable def AV(o:Obj):Option Obj:=match o.cls,o.data with
 | .none,.fields _=>none
 |_,_=>some o
noncomputable def LH(o:Obj):Option Obj:=match o.data with
 | .dict .. =>some {cls:=.none,data:=.plain}
 |_=>none
abbrev Rq:=List (Addr× (Obj->Option Obj))
noncomputable def WQ(a:Str)(C N:Addr)(c b:Nat):Obj:=excClassObj a a C N [.type "object"] [.type "object"] true [] [] false none none none none (some (.str a c)) (some (.str a b)) (some (.bool true)) "object.__new__"
noncomputable def AE(P:Params)(x:Str)(t:Nat)(v:Value):DictEntry:=⟨PyData.keyHash P x,.str x t,v⟩
noncomputable def Rr:Obj:=excClassObj "AdaRaise" "AdaRaise" 77 76 [.ref 38] [.ref 38,.type "Exception",.type "BaseException",.type "object"] true [] [] false none none (some (.ref 61)) none (some (.str "AdaRaise" 251)) (some (.str "AdaRaise" 259)) (some (.bool true)) "Exception.__new__"
noncomputable def UE:Obj:=excClassObj "AdaError" "AdaError" 38 37 [.type "Exception"] [.type "Exception",.type "BaseException",.type "object"] true [] [.ref 58,.ref 77] false none none (some (.ref 22)) none (some (.str "AdaError" 196)) (some (.str "AdaError" 204)) (some (.bool true)) "Exception.__new__"
noncomputable def UD(P:Params):Obj:={cls:=.type "dict",data:=.dict #[AE P "__module__" 258 (.str "adacore.errors" 194),AE P "__firstlineno__" 262 (.int 15 261),AE P "__init__" 272 (.ref 74),AE P "__static_attributes__" 276 (.ref 75),AE P "__doc__" 277 .none] 2}
noncomputable def UG(P:Params):Obj:={cls:=.type "dict",data:=.dict #[AE P "__module__" 203 (.str "adacore.errors" 194),AE P "__firstlineno__" 207 (.int 5 206),AE P "__init__" 215 (.ref 35),AE P "__static_attributes__" 217 (.ref 36),AE P "__weakref__" 219 (.ref 39),AE P "__doc__" 220 .none] 3}
noncomputable def o2(P:Params):Obj:={cls:=.none,data:=.dict #[AE P "type.__subclasses__.Exception.0" 221 (.int 38 0),AE P "type.__subclasses__.Exception.n" 222 (.int 1 0)] 2}
noncomputable def Fh:Obj:={cls:=.type "tuple",data:=.seq #[.int 32 1069,.int 1000000 1072,.int 50 1073,.int 10000 1076,.int 100000 1079,.int 50 1080] 0}
noncomputable def LZ:Obj:={cls:=.type "tuple",data:=.seq #[.str "enum" 554,.str "int" 555,.str "mod" 556,.str "fixed" 557,.str "universal" 558] 0}
noncomputable def gE:V->Option Value
 | .fn k=>some (.ref (K0 k))
 | .cls k=>some (.ref (K4 k))
 | .str s=>some (.str s 429)
 | .tup _=>some (.ref 268)
 |_=>none
noncomputable def bE:V->Option Value
 | .bi b=>some (ux b)
 |_=>none
noncomputable def UN:List Str:=GL.map (·.1)++[Str.ofString "range",Str.ofString "AdaRaise",Str.ofString "AdaError",Str.ofString "Exception",Str.ofString "law"]
noncomputable def UO:List (Option Value):=GL.map (λ p=>gE p.2)++[none,some (.ref 77),some (.ref 38),none,some (.ref 701)]
noncomputable def UP:List Str:=GL.map (·.1)++[Str.ofString "range",Str.ofString "Exception"]
noncomputable def UQ:List (Option Value):=GL.map (fun p=>bE p.2)++[some (.type "range"),some (.type "Exception")]
noncomputable def Uu:Rq:=Dl.map λ r=>(r.2.2.1,Gg)
noncomputable def exA:List Obj:=Dl.map λ r=>Gh r.1 r.2.1 r.2.2.1 r.2.2.2
noncomputable def Ut:Rq:=Dl.map λ r=>(r.2.2.1 - 1,oP)
noncomputable def exB:List Obj:=Dl.map λ r=>J6 r.2.1
noncomputable def Us:Rq:=uJ.map λ r=>(r.2.1,AV)
noncomputable def exC:List Obj:=uJ.map λ r=>WQ (l9 (dA r.1)) r.2.1 r.2.2.1 r.2.2.2.2.1 r.2.2.2.2.2.1
noncomputable def Ur:Rq:=uJ.map λ r=>(r.2.2.1,Fi WP)
noncomputable def exD:List Obj:=uJ.map λ r=>Hg (some (.ref r.2.2.2.1)::none::none::bH.map λ _=>none)
noncomputable def LQ:Rq:=[(77,AV),(76,AV),(38,AV),(37,AV),(2,AV),(602,AV),(268,AV),(3,Fi UN),(0,Fi UP),(1,LH)]
noncomputable def Zf(P:Params):List Obj:=[Rr,UD P,UE,UG P,o2 P,Fh,LZ,Hg UO,Hg UQ,{cls:=.none,data:=.plain}]
noncomputable def rn(b:Rq)(a:Addr->Option Obj):List (Option Obj):=b.map λ r=>(a r.1).bind r.2
noncomputable def BU(a:Addr->Option Obj):=(rn Uu a,rn Ut a,rn Us a,rn Ur a,rn LQ a)
noncomputable def EM(P:Params):=(exA.map some,exB.map some,exC.map some,exD.map some,(Zf P).map some)
theorem iz:∀ {a:Rq} {L:List Obj},(∀r∈a,∀o x,f r.1=some o->r.2 o=some x->c r.1=some o)->rn a f=L.map some->rn a c=L.map some
 | [],L,_,e=>e
 |r::a,[],_,e=>bZ List.ctorIdx (e) rfl
 |r::a,x::L,h,e=>by rwa[aK (List.cons.inj e),k j];rwa[ac (aE k),o i b];have g:=h r (.head _) o x i b;refine congr (congrArg List.cons ?_) (iz (λ r d=>h r (.tail _ d)) j);show(c r.1).bind r.2=some x;exact aU g b
theorem mV(h:∀r,r∈Uu∨r∈Ut∨r∈Us∨r∈Ur∨r∈LQ->∀o x,f r.1=some o->r.2 o=some x->b r.1=some o)(e:BU f=EM P):BU b=EM P:=by
 rwa[aK (Prod.mk.inj e),j e];rwa[aK (Prod.mk.inj e),i e];rwa[aK (Prod.mk.inj e),g e];rwa[aK (Prod.mk.inj e),d c];exact Prod.ext (iz (λ r a=>h r (.inl a)) j) (Prod.ext (iz (λ r a=>h r (.inr (.inl a))) i) (Prod.ext (iz (λ r a=>h r (.inr (.inr (.inl a)))) g)
  (Prod.ext (iz (λ r a=>h r (.inr (.inr (.inr (.inl a))))) d) (iz (λ r a=>h r (.inr (.inr (.inr (.inr a))))) c))))
noncomputable def m1:List Stmt:=eF (dA 95)
noncomputable def Ct:List (Str×NameKind):=(iQ (dA 95)).names
noncomputable def LA(e:Stmt):List Stmt:=if h:e.ctorIdx=17 then Stmt.Try.elim e h (λ b _ _ _ _=>b)else []
noncomputable def Uf:List Stmt:=LA ((m1[14]?).getD (.Pass default))
noncomputable def QM(e:Stmt):List Expr×Expr:=if h:e.ctorIdx=5 then Stmt.Assign.elim e h (λ t v _=>(t,v))else default
noncomputable def Nu:List Expr×Expr:=QM (Uf.headD (.Pass default))
noncomputable def Ac:Expr×List Expr:=((yd Nu.2).map λ q=>(q.1,q.2.1)).getD default
noncomputable def xo:Expr:=Nu.1.headD default
theorem Cp:Eu Ct (m1.take 10) ((m1.drop 11).take 3) (m1.drop 15) Ac.1 Ac.2 xo:=⟨by kernel_rfl,by kernel_rfl,by kernel_rfl,by kernel_rfl,by kernel_rfl,by kernel_rfl,by kernel_rfl,by kernel_rfl,by kernel_rfl,by kernel_rfl,by kernel_rfl,by kernel_rfl,by kernel_rfl,by kernel_rfl,by kernel_rfl,by kernel_rfl,by kernel_rfl⟩
theorem dX{α c:Type}[BEq α][LawfulBEq α]{a:α}{b:c}:∀ {l:List (α×c)},l.lookup a=some b->(a,b)∈l
 |(x,y)::l,h=>by
  rw[List.lookup_cons]at h
  cases q:a==x with
  |true=>
   rw[q]at h
   erw[beq_iff_eq.mp q,an h]
   exact .head _
  |false=>rw[q]at h;exact .tail _ (dX h)
 | [],h=>aD (h)
noncomputable def ka:Stmt:=(m1[10]?).getD (.Pass default)
noncomputable def XJ(d:FuncData):Prop:=∃b rH a c f e,d=fnX "tell" b (e8 ka) (eF ka) (iQ ka) rH .none .none a c none (.ref f) e
noncomputable def Θ(prog:Program)(w:World)(B:Heap)(cl:Option Addr)(a0:Addr)(xs:List Int):Th:=⟨⟨K0,K4,cl,XJ,λ a b=>a=a0/\b=xs⟩,prog,w,B⟩
structure Bs(P:Params)(B:Heap):Prop where
 o:BU B.get? =EM P
section
variable{P:Params}{B:Heap}{prog:Program}{w:World}{cl:Option Addr}{a0:Addr}{xs:List Int}
theorem map_two{α:Type}{l:List α}{f:α->Addr× (Obj->Option Obj)}{g:α->Obj}{a:Addr->Option Obj}(h:rn (l.map f) a=(l.map g).map some):∀r∈l,(a (f r).1).bind (f r).2=some (g r):=by unfold rn at h;rw[List.map_map,List.map_map]at h;exact List.map_inj_left.mp h
theorem Bs.a(b:Bs P B):∀r∈Dl,(B.get? r.2.2.1).bind Gg=some (Gh r.1 r.2.1 r.2.2.1 r.2.2.2):=map_two (f:=λ r:Stmt×Str×Addr×Value=>(r.2.2.1,Gg)) (g:=λ r=>Gh r.1 r.2.1 r.2.2.1 r.2.2.2) (congrArg Prod.fst b.o)
theorem Bs.b(b:Bs P B):∀r∈Dl,(B.get? (r.2.2.1 - 1)).bind oP=some (J6 r.2.1):=map_two (f:=λ r:Stmt×Str×Addr×Value=>(r.2.2.1 - 1,oP)) (g:=λ r=>J6 r.2.1) (congrArg (λ x=>x.2.1) b.o)
theorem Bs.c(b:Bs P B):∀r∈uJ,(B.get? r.2.1).bind AV=some (WQ (l9 (dA r.1)) r.2.1 r.2.2.1 r.2.2.2.2.1 r.2.2.2.2.2.1):=map_two (f:=λ r:Nat×Addr×Addr×Addr×Nat×Nat×Value=>(r.2.1,AV)) (g:=λ r=>WQ (l9 (dA r.1)) r.2.1 r.2.2.1 r.2.2.2.2.1 r.2.2.2.2.2.1) (congrArg (λ x=>x.2.2.1) b.o)
theorem Bs.d(b:Bs P B):∀r∈uJ,(B.get? r.2.2.1).bind (Fi WP)=some (Hg (some (.ref r.2.2.2.1)::none::none::bH.map λ _=>none)):=map_two (f:=λ r:Nat×Addr×Addr×Addr×Nat×Nat×Value=>(r.2.2.1,Fi WP)) (g:=λ r=>Hg (some (.ref r.2.2.2.1)::none::none::bH.map λ _=>none)) (congrArg (λ x=>x.2.2.2.1) b.o)
theorem kH(h:(B.get? a).bind AV=some x):B.get? a=some x:=by
 rwa[ac (aE h),o c b];unfold AV at b
 split at b
 ·exact aD (b)
 ·exact c.trans b
theorem WC:R0.all (λ p=>Nat.beq p.1 1000 || (R1.lookup p.1).isSome)=true:=by kernel_rfl
theorem ffn(b:Bs P B)(n:k≠kG)(h:FF k=some g):FnAt (Θ prog w B cl a0 xs) (K0 k) g:=by
 have d:=dX h;have i:Nat.beq k 1000=false:=by
  generalize q:Nat.beq k 1000=o;induction o with
  |false=>rfl
  |true=>exact absurd (Nat.eq_of_beq_eq_true q) n
 have t:=List.map_inj_left.mp Z0 _ d
 dsimp only at t
 rw[i]at t;rwa[aK (Prod.mk.inj t),_ t];rwa[aK (Prod.mk.inj t),m l];have f:=List.all_eq_true.mp WC _ d;rw[show Nat.beq (k,g).1 1000=false from i,Bool.false_or]at f;rwa[aW (Option.isSome_iff_exists.mp f),a j];have e:K0 k=a:=by unfold K0;erw[show R1.lookup k=some a from j];rfl
 have c:(dA k,l9 (dA k),K0 k,Value.none)∈Dl:=List.mem_append_left _ (List.mem_map.mpr (aw (k,a) (dX j) (by exact aU e rfl)));exact Gj (b.a _ c) (b.b _ c) m l
theorem HJ(h:CC k=some g):∃r∈uJ,r.1=k:=by have a:k∈Qs.map (·.1):=List.mem_map.mpr (aw _ (dX h) rfl);rw[show Qs.map (·.1)=uJ.map (·.1)from rfl]at a;exact List.mem_map.mp a
theorem Ql:uJ.all (λ r=>Nat.beq (K4 r.1) r.2.1)=true:=by kernel_rfl
theorem Qv{r}(a:r∈uJ):K4 r.1=r.2.1:=Nat.eq_of_beq_eq_true (List.all_eq_true.mp Ql r a)
theorem xW(b:Bs P B){r}(g:r∈uJ):∃a,ClsAt B (K4 r.1) r.2.2.1 a∧a "__init__" =some (.ref r.2.2.2.1)∧a "__getattribute__" =none∧a "__setattr__" =none∧∀x,x∈bH→a x=none:=by rwa[ac (xh (b.d r g)),a i f];have e:=kH (b.c r g);exact aK (List.cons.inj f) λ m f=>aK (List.cons.inj f) λ l f=>aK (List.cons.inj f) λ k j=>aU (Qv g) (jk a ⟨(NE _ _ _ _ _ _ _ _ _ _ _ _ e),i⟩ m l k (λ x h=>List.map_inj_left.mp j x h))
theorem tU{r}(a:r∈uJ):(fz (dA r.1),l9 (dA r.1)++ ".__init__",r.2.2.2.1,r.2.2.2.2.2.2)∈Dl:=List.mem_append_right _ (List.mem_append_left _ (List.mem_map.mpr (aw r a rfl)))
theorem D0{r}(b:Bs P B)(e:r∈uJ)(h:CC r.1=some g):∃o d c j k,o8 (Θ prog w B cl a0 xs) r.2.2.2.1 g o d (eF (fz (dA r.1))) (c.map (·.arg))/\d.params=⟨[],c,none,[],j,none,k⟩/\(c.map (·.arg)).Nodup/\d.defaults=r.2.2.2.2.2.2:=by exact aK (Prod.mk.inj (List.map_inj_left.mp ZZ _ (dX h))) λ i f=>uf (b.a _ (tU e)) (b.b _ (tU e)) i f
end
section
variable{P:Params}{B:Heap}{prog:Program}{w:World}{cl:Option Addr}{a0:Addr}{xs:List Int}
noncomputable def zV:Arguments:=e8 (fz (dA 81))
theorem Ck(i:h.params=zV)(k:h.defaults=.ref 602)(j:s.heap.get? 602=some Fh)(a b c d e f g:Value):BindsTo s h ⟨[a,b,c,d,e,f,g],[]⟩ ((zV.args.map (·.arg)).zip [a,b,c,d,e,f,g]):=by
 obtain ⟨⟩:=h
 cases i
 cases k
 exact BindsTo.of_defaults rfl j rfl rfl rfl
theorem IS(b:a.params=zV)(d:a.defaults=.ref 602)(c:s.heap.get? 602=some Fh)(x u:Value):BindsTo s a ⟨[x],[("members",u)]⟩ ((zV.args.map (·.arg)).zip (x::([.int 32 1069,.int 1000000 1072,.int 50 1073]++u:: [.int 100000 1079,.int 50 1080]))):=by
 obtain ⟨⟩:=a
 cases b
 cases d
 exact BindsTo.of_defaults rfl c rfl rfl rfl
theorem Dr{c:Th}{a:Addr}{g:Fn}{o:Obj}{d:FuncData}{body:List Stmt}{b:List Str}{st:Stmt}{q:Str}{k:Value}(f:o8 c a g o d body b)(e:(c.base.get? a).bind Gg=some (Gh st q a k)):d.params=e8 st:=by rwa[qD (nU e),l m j i _ _ h _];obtain rfl:=an (f.at_.symm.trans j);obtain rfl:=PySem.Data.func.inj (f.data.symm.trans i);exact h
theorem Qk:uJ.all (λ r=>match r.2.2.2.2.2.2 with
 | .none=> !(Nat.beq r.1 81)
 | .ref a=>Nat.beq a 602&&Nat.beq r.1 81
 |_=>false)=true:=by kernel_rfl
theorem D1{r}(b:r∈uJ):(r.2.2.2.2.2.2=.none/\r.1≠81)∨(r.2.2.2.2.2.2=.ref 602/\r.1=81):=by
 have h:=List.all_eq_true.mp Qk r b
 split at h
 ·rename_i e;exact .inl ⟨e,λ w=>by rw[w]at h;exact bZ Bool.ctorIdx (h) rfl⟩
 ·rename_i a e;rw[Bool.and_eq_true]at h;exact .inr ⟨by erw[e,Nat.eq_of_beq_eq_true h.1];rfl,Nat.eq_of_beq_eq_true h.2⟩
 ·exact bZ Bool.ctorIdx (h) rfl
theorem Bs.e(b:Bs P B):rn LQ B.get? =(Zf P).map some:=congrArg (λ x=>x.2.2.2.2) b.o
theorem HK(b:Bs P B):B.get? 602=some Fh:=by have e:=b.e;exact aK (List.cons.inj e) λ _ e=>aK (List.cons.inj e) λ _ e=>aK (List.cons.inj e) λ _ e=>aK (List.cons.inj e) λ _ e=>aK (List.cons.inj e) λ _ e=>kH (List.cons.inj e).1
theorem jV:∀ {l:List α},l.length=n+1->∃a r,l=a::r/\r.length=n
 |a::r,h=>ff a r rfl (Nat.succ.inj h)
theorem UW{h:List Str}{i:List Value}(r:h.length=7)(j:i.length=h.length):∃a b c d e f g,i=[a,b,c,d,e,f,g]:=by rw[r]at j;rwa[cO (jV j),a Q q z,q];rwa[cO (jV z),b O p y,p];rwa[cO (jV y),c L o x,o];rwa[cO (jV x),d J n v,n];rwa[cO (jV v),e H m u,m];rwa[cO (jV u),f G l t,l];rwa[cO (jV t),g A k s,k];obtain rfl:=List.eq_nil_of_length_eq_zero s;exact ND a b c d e f g rfl
theorem GK(b:Bs P B)(h:CC k=some g):zH (Θ prog w B cl a0 xs) k g:=by
 rwa[ac (HJ h),r j O];subst O;rwa[bR (xW b j),v A z _];rwa[uj (D0 (prog:=prog) (w:=w) (cl:=cl) (a0:=a0) (xs:=xs) b j h),o H i Y ds f t L p];refine⟨_,v,_,o,H,_,_,A,z,f,λ m n s x=>?_⟩;rcases D1 j with ⟨q,_⟩|⟨q,u⟩
 ·exact .of_eq (jX t (p.trans q) L n)
 ·have l:=Dr f (b.a _ (tU j));rw[show fz (dA r.1)=fz (dA 81)by exact aU u rfl]at l;have y:i=zV.args:=by have:=t.symm.trans l;exact congrArg Arguments.args this
  subst y;rwa[Qh (UW rfl n),a U c d e J G Q];subst Q;exact Ck l (p.trans q) (x _ _ (HK b)) a U c d e J G
theorem yu:(iQ ka).names.all (fun p=>(p.2==.globalImplicit || (p.1==Str.ofString "run" || (p.1==Str.ofString "node" || p.1==told)))&& !(p.2==.cell))=true:=by kernel_rfl
theorem ET(h:FF kG=some g)(b:XJ l):∃body d c i f j,GZ l g body d c i f j:=by
 rwa[Qi b,o rH m r u s n];try clear b;subst n
 have e:FF kG=some qt:=rfl;obtain rfl:=an (h.symm.trans e);refine(Ja (eF ka) ("run") ("node") 0 1 2 ⟨rfl,fun q p=>rfl,by decide,by kernel_rfl,by kernel_rfl,by kernel_rfl,rfl,by kernel_rfl,by kernel_rfl,by kernel_rfl,?_,?_,by kernel_rfl,by kernel_rfl,rfl,rfl,rfl,rfl,rfl⟩)
 ·intro x k a;have t:=List.all_eq_true.mp yu _ (dX a);rw[Bool.and_eq_true,Bool.or_eq_true,Bool.or_eq_true,Bool.or_eq_true]at t;exact t.1.imp beq_iff_eq.mp λ z=>z.imp beq_iff_eq.mp λ z=>z.imp beq_iff_eq.mp beq_iff_eq.mp
 ·intro x a e;have t:=List.all_eq_true.mp yu _ a;rw[Bool.and_eq_true,e]at t;exact bZ Bool.ctorIdx (t.2) rfl
theorem Nv(b:Bs P B)(l:FJ k x=some q)(h:CC k=some g):∃v A N j L o t body c,et (Θ prog w B cl a0 xs).P B [] q.1 v/\et (Θ prog w B cl a0 xs).P B [] q.2 A/\∀u,yf (Θ prog w B cl a0 xs) k g [] [(x,u)] (v++u::A) N j L o t body c:=by
 rwa[aK (fe l),p l];rw[Bool.and_eq_true]at p;obtain rfl:k=81:=beq_iff_eq.mp p.1;obtain rfl:=beq_iff_eq.mp p.2;obtain rfl:=an l;rwa[ac (HJ h),r i e];rwa[bR (xW b i),j z J _];rw[e]at z;rwa[uj (D0 (prog:=prog) (w:=w) (cl:=cl) (a0:=a0) (xs:=xs) b i (e.symm▸h)),o t d U v f Q Y O];rcases D1 i with ⟨_,n⟩|⟨q,_⟩
 ·exact absurd e n
 ·have m:=Dr f (b.a _ (tU i));rw[show fz (dA r.1)=fz (dA 81)by exact aU e rfl]at m;have H:d=zV.args:=by have:=Q.symm.trans m;exact congrArg Arguments.args this
  subst H;exact(I8 ([.int 32 1069,.int 1000000 1072,.int 50 1073]) ([.int 100000 1079,.int 50 1080]) _ j _ o t _ _ (.cons (.int ..) (.cons (.int ..) (.cons (.int ..) .nil))) (.cons (.int ..) (.cons (.int ..) .nil)) (λ u=>⟨z,J,f,λ y s G=>IS m (O.trans q) (G _ _ (HK b)) y u⟩))
theorem He(b:Bs P B):Tb (Θ prog w B cl a0 xs):=⟨λ _ _ c h=>ffn b c h,λ _ _ h=>GK b h,λ _ h _ d=>ET h d,λ _ _ _ _ a h=>Nv b a h⟩
end
section
variable{P:Params}{B:Heap}{prog:Program}{w:World}{cl:Option Addr}{a0:Addr}{xs:List Int}
structure Es(P:Params)(B:Heap):Prop where
 WL:B.get? 77=some Rr
 Zi:B.get? 76=some (UD P)
 e38:B.get? 38=some UE
 e37:B.get? 37=some (UG P)
 e2:B.get? 2=some (o2 P)
 WM:B.get? 268=some LZ
 e3:(B.get? 3).bind (Fi UN)=some (Hg UO)
 e0:(B.get? 0).bind (Fi UP)=some (Hg UQ)
 e1:∃x,(B.get? 1).bind LH=some x
theorem Bs.es(b:Bs P B):Es P B:=by exact aK (List.cons.inj b.e) λ a0 e=>aK (List.cons.inj e) λ l e=>aK (List.cons.inj e) λ k e=>aK (List.cons.inj e) λ j e=>aK (List.cons.inj e) λ i e=>aK (List.cons.inj e) λ _ e=>aK (List.cons.inj e) λ h e=>aK (List.cons.inj e) λ g e=>aK (List.cons.inj e) λ f e=>⟨kH a0,kH l,kH k,kH j,kH i,kH h,g,f,_,(List.cons.inj e).1⟩
theorem Sd:∀ {a b c d:List α},a.length=c.length->a++b=c++d->a=c/\b=d
 |_,_,_,_,h,e=>List.append_inj e h
structure Gl(B:Heap)(mg mb:Str->Option Value):Prop where
 main:B.Ns mainGlobals mg
 blt:B.Ns builtinsNs mb
 gs:∀p∈GL,mg p.1=gE p.2
 bs:∀p∈GL,mb p.1=bE p.2
 r1:mg "range" =none
 r2:mg "AdaRaise" =some (.ref 77)
 r3:mg "AdaError" =some (.ref 38)
 r4:mg "Exception" =none
 r5:mg "law" =some (.ref 701)
 b1:mb "range" =some (.type "range")
 b2:mb "Exception" =some (.type "Exception")
theorem Bs.gl(b:Bs P B):∃g h,Gl B g h:=by have E:=b.es;rwa[ac (xh E.e3),g s i];rwa[ac (xh E.e0),h u k];unfold UN UO at i;unfold UP UQ at k;rw[List.map_append,List.map_map]at i k;exact aK (List.append_inj i (by rw[bo,bo])) λ r f=>aK (List.append_inj k (by rw[bo,bo])) λ t j=>aK (List.cons.inj f) λ q f=>aK (List.cons.inj f) λ p f=>aK (List.cons.inj f) λ n f=>aK (List.cons.inj f) λ m f=>aK (List.cons.inj j) λ l j=>(im g h ⟨s,u,List.map_inj_left.mp r,List.map_inj_left.mp t,q,p,n,m,(List.cons.inj f).1,l,(List.cons.inj j).1⟩)
theorem Bs.vn(b:Bs P B):B.NoLimit:=by
 have e:=b.es.e2;exact(aw _ (gM _ _ _ e rfl (λ e f=>by simp only[List.mem_toArray,List.mem_cons,List.not_mem_nil,or_false]at f;rcases f with rfl|rfl<;> exact(im _ _ rfl)) (λ _=>rfl)) (by kernel_rfl))
theorem YX{p}(h:p∈GL)(b:BI)(e:p.2=.bi b):gE p.2=none/\bE p.2=some (ux b):=by exact aU e ⟨rfl,rfl⟩
theorem Ps:GL.all (λ p=>match p.2 with
 | .fn _| .cls _| .bi _=>true
 | .str _| .tup _=>true
 |_=>false)=true:=by kernel_rfl
noncomputable def L5:List V:=[.str (Str.ofString "enum"),.str (Str.ofString "int"),.str (Str.ofString "mod"),.str (Str.ofString "fixed"),.str (Str.ofString "universal")]
theorem JQ:GL.map (λ p=>match p.2 with
 | .tup a=>a
 |_=>L5)=GL.map (λ _=>L5):=by kernel_rfl
theorem Bd(b:Bs P B)(n:Ep B a0 xs):Wd (Θ prog w B cl a0 xs) where
 top:=by
  rwa[d9 b.gl,j l G];refine(im j l ⟨G.main,G.blt,λ x v h=>?_,⟨G.r1,G.b1⟩,⟨?_,?_⟩,b.vn⟩)
  ·have d:=dX h;have g:=G.gs _ d;have L:=G.bs _ d;have A:=List.all_eq_true.mp Ps _ d
   induction v using V.casesOn with
   |fn k=>exact(aw _ (.inl g) (.fn k))
   |cls k=>exact(aw _ (.inl g) (.cls k))
   |bi c=>exact(aw _ (.inr ⟨g,L⟩) (.bi c))
   |str s=>exact(aw _ (.inl g) (.str s 429))
   |tup i=>refine(aw _ (.inl g) (.tup (cR _ b.es.WM rfl ⟨_,rfl⟩) ?_));obtain rfl:i=L5:=List.map_inj_left.mp JQ _ d;exact .cons (.str ..) (.cons (.str ..) (.cons (.str ..) (.cons (.str ..) (.cons (.str ..) .nil))))
   |_=>exact bZ Bool.ctorIdx (A) rfl
  ·exact G.gs (Str.ofString "list",.bi .list) (dX (by kernel_rfl))
  ·exact G.bs (Str.ofString "list",.bi .list) (dX (by kernel_rfl))
 cls k f:=by
  have:k=7∨k=8∨k=29∨k=30∨k=64∨k=81:=by unfold Fd at f;simp only[Bool.or_eq_true,beq_iff_eq]at f;rcases f with ((((h|h)|h)|h)|h)|h<;> simp [h]
  have d:k∈uJ.map (·.1):=by show k∈[7,8,29,30,64,81];simpa using this
  rwa[ac (List.mem_map.mp d),r p J];subst J;exact fh (xW b p) λ m y _ u t q=>⟨(gj _ m y u t q)⟩
 sys:=by exact aW b.es.e1 λ x e=>ac (aE e) λ o z _=>λ h=>dk (z.symm.trans h)
 ke a Q h:=by
  rwa[aK h,O H];try clear h;subst O;subst H
  exact n
end
section
variable{P:Params}{B:Heap}{prog:Program}{w:World}{cl:Option Addr}{a0:Addr}{xs:List Int}
noncomputable def R4(P:Params)(d:Option Addr)(b:Data)(a:Array (Option Value)):Frag:=[(77,Rr),(76,UD P),(38,UE),(37,UG P),(2,o2 P),(35,⟨.type "function",d,b,a⟩)]
theorem Dx(b:Bs P B)(g:B.get? 35=some ⟨.type "function",d,f,e⟩):(R4 P d f e).In B:=fun a o h=>by
 have E:=b.es;have c:=dX h;unfold R4 at c;simp only[List.mem_cons,List.not_mem_nil,or_false,Prod.mk.injEq]at c;rcases c with ⟨rfl,rfl⟩|⟨rfl,rfl⟩|⟨rfl,rfl⟩|⟨rfl,rfl⟩|⟨rfl,rfl⟩|⟨rfl,rfl⟩
 ·exact E.WL
 ·exact E.Zi
 ·exact E.e38
 ·exact E.e37
 ·exact E.e2
 ·exact g
noncomputable def BH(st:Stmt)(a b:List Str):Bool:=(xe (e8 st)&&xd (iQ st))&& ((e8 st).args.map (·.arg)==a&& (decide a.Nodup&& (a.all (λ y=>(iQ st).names.lookup y==some .local)&&b.all λ y=>(iQ st).names.lookup y==some .globalImplicit)))
theorem BG{st:Stmt}{q:Str}{a:Addr}{b j:List Str}(s:(B.get? a).bind Gg=some (Gh st q a .none))(r:(B.get? (a - 1)).bind oP=some (J6 q))(d:BH st b j=true):zG B a b j (eF st):=by rwa[m9 (nU s),o t J H G A z x c v u Q U O];have d:=bV d;have n:=bV d.1;have m:=bV d.2;have l:=bV m.2;have k:=bV l.2;rwa[cA (rY n.2),g f e];have L:=beq_iff_eq.mp m.1;subst L;exact⟨o,t,J,H,G,by erw[U,A];exact wm r,x,u,λ i p=>jX (z.trans (rZ n.1)) Q (of_decide_eq_true l.1) p,by exact aU c (λ y h=>beq_iff_eq.mp (List.all_eq_true.mp k.1 y h)),by exact aU c (λ y h=>beq_iff_eq.mp (List.all_eq_true.mp k.2 y h)),by erw[c];first|exact e|exact f|exact g,by erw[c];first|exact f|exact g|exact e,by erw[c];first|exact g|exact f|exact e,v,O⟩
theorem A2:QV (eF (fz (dA 2))):=aw (λ i=>([⟨8,8,8,17⟩,⟨8,27,8,31⟩,⟨8,33,8,37⟩,⟨8,8,8,38⟩,⟨9,8,9,12⟩,⟨9,8,9,17⟩,⟨9,20,9,24⟩,⟨9,8,9,24⟩,⟨8,8,8,26⟩,⟨8,8,8,38⟩]:List Pos).getD i default) rfl rfl
theorem Aq:QU (eF (fz (dA 4))):=aw (λ i=>([⟨18,8,18,16⟩,⟨18,26,18,30⟩,⟨18,32,18,36⟩,⟨18,8,18,37⟩,⟨19,8,19,12⟩,⟨19,8,19,17⟩,⟨19,20,19,24⟩,⟨19,8,19,24⟩,⟨20,8,20,12⟩,⟨20,8,20,17⟩,⟨20,20,20,24⟩,⟨20,8,20,24⟩,⟨21,8,21,12⟩,⟨21,8,21,17⟩,⟨21,20,21,24⟩,⟨21,8,21,24⟩,⟨18,8,18,25⟩,⟨18,8,18,37⟩]:List Pos).getD i default) rfl rfl
theorem Vd:(fz (dA 2),Str.ofString "AdaError.__init__",35,Value.none)∈Dl:=List.mem_append_right _ (List.mem_append_right _ (.head _))
theorem Ye:(fz (dA 4),Str.ofString "AdaRaise.__init__",74,Value.none)∈Dl:=List.mem_append_right _ (List.mem_append_right _ (.tail _ (.head _)))
theorem Uw:BH (fz (dA 4)) [Str.ofString "self",Str.ofString "name",Str.ofString "line",Str.ofString "text"] [Str.ofString "AdaError"]=true:=by kernel_rfl
theorem Ux:BH (fz (dA 2)) [Str.ofString "self",Str.ofString "text"] [Str.ofString "Exception"]=true:=by kernel_rfl
noncomputable def Qr:ClassData:=match Rr.data with
 | .cls a=>a
 |_=>default
theorem UH(b:Bs P B):∃a,B.Ns 76 a∧a "__init__" =some (.ref 74):=(aw _ (gM _ _ _ b.es.Zi rfl (fun e c=>by simp only[List.mem_toArray,List.mem_cons,List.not_mem_nil,or_false]at c;rcases c with rfl|rfl|rfl|rfl|rfl<;> exact(im _ _ rfl)) (λ _=>rfl)) (by kernel_rfl))
theorem QL(b:Bs P B):∃d e c,B.get? 35=some ⟨.type "function",d,e,c⟩:=by
 rwa[dm (nU (b.a _ Vd)),h j g _ f _];obtain ⟨i,d,e,c⟩:=h
 cases f
 exact(Ah d e c g)
theorem zq(b:Bs P B):QY (Θ prog w B cl a0 xs).P B:=by
 rwa[ac (UH b),i f e];rwa[d9 b.gl,g h G];rwa[kW (QL b),d j c k];refine⟨⟨R4 P d j c,38,74,35,⟨_,_,76,_,_,_,_,_,_,_,_,_,_,_,_⟩,i,g,h,Qr,eF (fz (dA 4)),eF (fz (dA 2))⟩,Dx b k,b.es.WL,f,e,BG (b.a _ Ye) (b.b _ Ye) Uw,BG (b.a _ Vd) (b.b _ Vd) Ux,Aq,A2,?_,?_,?_,?_,?_,?_,?_,?_,?_,?_,?_,G.main,G.blt,G.r2,G.r3,G.r4,G.b2,b.vn⟩
 all_goals kernel_rfl
theorem D2(b:Bs P B):∃K f a,lh B (K4 4) K f a:=by rwa[d9 b.gl,a h G];rwa[kW (QL b),d e c g];refine(Ah (R4 P d e c) Qr a ⟨Dx b g,(jR ⟨_,_,76,_,_,_,_,_,_,_,_,_,_,_,_⟩ _ _ b.es.WL (by kernel_rfl)),by kernel_rfl,by kernel_rfl,by kernel_rfl,by kernel_rfl,by kernel_rfl,by kernel_rfl,G.main,G.r2⟩)
end
noncomputable def Nt:Fn:=⟨[0],Ct.length,m1.map (nG 60 Ct)⟩
theorem tF:(dA 95,Str.ofString "law",701,Value.none)∈Dl:=List.mem_append_right _ (List.mem_append_right _ (.tail _ (.tail _ (.head _))))
theorem IV:xP (dA 95)=true:=by kernel_rfl
theorem IT:zO (e8 (dA 95)) (eF (dA 95)) (iQ (dA 95))=some Nt:=by kernel_rfl
theorem Cs:∃a body b,∃p:Nat→Pos,m1=m1.take 10++(.FunctionDef "tell" a body [] none [] b none "tell" (p 0)::((m1.drop 11).take 3++(.Try [.Assign [xo] (.Call Ac.1 Ac.2 [] (p 2)) (p 1)] [.ExceptHandler (some (.Name "AdaRaise" (p 3))) (some "fault")
   [.Return (some (.BoolOp .And [.Compare (.Attribute (.Name "fault" (p 4)) "word" (p 5)) [.Eq] [.Name "due" (p 6)] (p 7),.Compare (.Name "told" (p 8)) [.Eq] [.Name "log" (p 9)] (p 10)] (p 11))) (p 12)] (p 13)] [] [] (p 14)::m1.drop 15)))∧
  a=e8 ka/\body=eF ka/\b=iQ ka:=me _ _ _ (λ i=>([⟨571,4,573,22⟩,⟨578,8,578,59⟩,⟨578,16,578,59⟩,⟨579,11,579,19⟩,⟨580,15,580,20⟩,⟨580,15,580,25⟩,⟨580,29,580,32⟩,⟨580,15,580,32⟩,⟨580,37,580,41⟩,⟨580,45,580,48⟩,⟨580,37,580,48⟩,⟨580,15,580,48⟩,⟨580,8,580,48⟩,⟨579,4,580,48⟩,⟨577,4,580,48⟩]:List Pos).getD i default) rfl rfl rfl rfl
theorem H9:∀r,r∈Uu∨r∈Ut∨r∈Us∨r∈Ur∨r∈LQ->r.2 (tabObj #[])=none:=by
 rintro r (h|h|h|h|h)
 ·rwa[ac (List.mem_map.mp h),x _ d];subst d;rfl
 ·rwa[ac (List.mem_map.mp h),x _ e];subst e;rfl
 ·rwa[ac (List.mem_map.mp h),x _ b];subst b;rfl
 ·rwa[ac (List.mem_map.mp h),x _ a];subst a;rfl
 ·unfold LQ at h;simp only[List.mem_cons,List.not_mem_nil,or_false]at h;rcases h with rfl|rfl|rfl|rfl|rfl|rfl|rfl|rfl|rfl|rfl<;> rfl
theorem lh.keeps{B d:Heap}{C:Addr}{K:Frag}{a:ClassData}{mg:Str->Option Value}(x:lh B C K a mg)(k:∀b o,B.get? b=some o->d.get? b=some o):lh d C K a mg where
 X0:=x.X0.keeps k
 cls:=by exact iK x.cls λ r g i f e=>jR r g i (k _ _ f) e
 ga:=x.ga
 ng:=x.ng
 wd:=x.wd
 WR:=x.WR
 hb:=x.hb
 hd:=x.hd
 ns:=x.ns.keeps k
 nm:=x.nm
theorem JW{h:Th}{a:Addr}{g:Fn}{o:Obj}{d:FuncData}{body:List Stmt}{b:List Str}{st:Stmt}{q:Str}{m:Value}(f:o8 h a g o d body b)(e:(h.base.get? a).bind Gg=some (Gh st q a m)):d.params=e8 st/\d.scope=iQ st/\d.code=.ref (a - 1):=by rwa[m9 (nU e),p r l k _ _ j _ i _ _ _ n _];obtain rfl:=an (f.at_.symm.trans l);obtain rfl:=PySem.Data.func.inj (f.data.symm.trans k);exact(bN j i n)
theorem w4:(iQ ka).names=[(Str.ofString "run",NameKind.local),(Str.ofString "node",NameKind.local),(told,NameKind.free)]:=by kernel_rfl
theorem EV:(e8 ka).defaults=[]:=by kernel_rfl
theorem EU:(e8 ka).kw_defaults=[]:=by kernel_rfl
theorem EX:annTrees (e8 ka) none a=[]:=by kernel_rfl
theorem FA:(e8 (dA 95)).args.length=1:=by kernel_rfl
theorem FC:ij Nt [.ke xs]=some (eI (some (.ke xs)) none none none none none none none none none none none none none none none none):=by kernel_rfl
section
variable{prog:Program}{w:World}{ay:Shared}{c Pt a0:Addr}{ws:List Value}{xs:List Int}{mg mb:Str->Option Value}
theorem D7(O:BU h.get? =EM P)(e:h.get? Pt=some (tabObj #[])):Bs P (hideAll h [Pt]):=⟨mV (λ r d o x a f=>hideAll_get _ a λ b=>by rw[dF]at b;rw[b,e]at a;obtain rfl:=an (a);exact aD ((H9 r d).symm.trans f)) O⟩
theorem Bs.keeps(b:Bs P B)(k:∀x o,B.get? x=some o->f.get? x=some o):Bs P f:=⟨mV (λ _ _ o _ e _=>k _ _ e) b.o⟩
theorem Cr{R:Result->Shared->Prop}(O:BU ay.heap.get? =EM w.params)(g:ay.heap.Ns mainGlobals mg)(hC:CodeHd ay.heap 700 Pt)(s:ay.heap.get? Pt=some (tabObj #[]))(hB:ay.heap.BuiltinsAt mg Pt)(hl:ay.heap.IsList a0 ws.toArray)(hi:IntsAre ws xs)(Y:xs.length<=1000000)
  (cT:∀t,(∀b o,b≠Pt->ay.heap.get? b=some o->t.heap.get? b=some o)->(∃J,t.heap.get? Pt=some (tabObj J))->t.gens=ay.gens->t.os=ay.os->R (.ok (.ret (.bool true))) t):
  codeAny (model prog w) callerA (.call (.ref 701) ⟨[.ref a0],[]⟩) R ay:=by
 obtain ⟨B,A⟩:∃B,B=hideAll ay.heap [Pt]:=⟨_,rfl⟩;have j:=A▸D7 O s;have u:∀b o,b≠Pt->ay.heap.get? b=some o->B.get? b=some o:=λ b o n e=>by exact aU A (hideAll_get _ e λ hm=>n (dF.mp hm))
 have dn:∀b o,B.get? b=some o->ay.heap.get? b=some o:=λ b o e=>of_hideAll _ (A▸e);have bn:B.get? Pt=none:=by exact aU A (hideAll_none _ (.head _))
 have x:B.IsList a0 ws.toArray:=by rwa[bR hl,o d l bw];try clear hl;rwa[aW bw,n e3,-bw];exact(cR o (u _ _ (λ q=>by rw[q,s]at d;obtain rfl:=an (d);exact bZ Value.ctorIdx (l) rfl) d) l ⟨n,e3⟩)
 have KR:Ep B a0 xs:=⟨Y,ws,x,hi⟩;have L:∀ {a m},ay.heap.Ns a m->B.Ns a m:=fun{a m} ⟨o,es,ep,d,l,r⟩=>(gN o es ep (u _ _ (λ q=>by rw[q,s]at d;obtain rfl:=an (d);exact bZ Data.ctorIdx (l) rfl) d) l r);have W:Wd (Θ prog w B none a0 xs):=Bd j KR;have Tt:Tb (Θ prog w B none a0 xs):=He j;have RK:gw (Θ prog w B none a0 xs):= @u9 _ W (zq j);rwa[kW (D2 j),K cd Q CW];rwa[uj (uf (θ:=Θ prog w B none a0 xs) (j.a _ tF) (j.b _ tF) IV IT),o fd v kd ds hf d l e3];rwa[cA (JW hf (j.a _ tF)),f1 f2 f3];have ha:v.length=1:=by have:=congrArg (λ p:Arguments=>p.args.length) (d.symm.trans f1);exact this.trans FA
 have S:ec (Θ prog w B none a0 xs) ⟨[],λ _=>none,[],ay⟩:=⟨rfl,λ i o a e=>(aD (e)),dn,λ b i e=>(aD (e)),λ b i e=>(aD (e))⟩;have room:o7 (Θ prog w B none a0 xs) callerA 90 ⟨[],λ _=>none,[],ay⟩:=⟨rfl,⟨by decide,by decide,(aw ([]) rfl trivial),λ q e=>aD (e)⟩,by decide,by decide⟩;rwa[DD (z:=⟨[],λ _=>none,[],ay⟩) (vals:=[.ke xs]) (us:=[.ref a0]) (args:=⟨[.ref a0],[]⟩) W room S hf (.of_eq (jX d e3 l (by rw[bo,ha];rfl))) (.cons (.ke ⟨rfl,rfl⟩) .nil) FC,f aH hfe NT Bn N c];rwa[kT Cs,y body G p hb hq1 NX hq3,hq1,NX,hq3];show wpAny _ _ (PySem.execs m1 f.env) _ _ _
 erw[hb]
 rw[f2]at NT;have T:Eu f.sc (m1.take 10) ((m1.drop 11).take 3) (m1.drop 15) Ac.1 Ac.2 xo:=by exact aU NT Cp
 have ne:∀ {b:Addr} {o:Obj},ay.heap.get? b=some o->o.cls≠ .none->b≠Pt:=fun{b o} e n q=>by rw[q,s]at e;obtain rfl:=an (e);exact n rfl
 have D:Kz (Θ prog w B none a0 xs) f mg 700 Pt:=by
  refine⟨by exact aU hfe f3,?_,bn,?_,L g,?_,λ ob VD=>(aw (ay.heap.update Pt λ _=>ob) (Heap.get?_update_self _ s VD) (λ b n=>?_))⟩
  ·obtain ⟨o,vs,WB,tf,Qa,tg,U,Ui,tt,e,r⟩:=hC;exact(CJ o vs WB tf Qa tg U Ui tt (u _ _ (ne e (by exact aU r.1 (λ q=>bZ Value.ctorIdx (q) rfl))) e) r)
  ·rwa[cy g,o es ep d l _,-g];exact λ q=>by rw[q,s]at d;obtain rfl:=an (d);exact bZ Data.ctorIdx (l) rfl
  ·rwa[qD hB,bm o h1 h2 h3 h4 h5 r,-hB];exact(tX bm o h1 h2 h3 h4 (u _ _ h4 h5) r)
  ·erw[Heap.get?_update_other _ _ (λ q=>n q.symm)]
   generalize q:ay.heap.get? b=Lb;induction Lb with
   |some o=>exact(u b o n q).symm
   |none=>
    generalize H:B.get? b=La;induction La with
    |none=>exact H.symm
    |some o=>exact aD (q.symm.trans (dn b o H))
 obtain ⟨q,hq⟩:∃q,f.env.cells.lookup told=some q:=by
  rcases c.st.how told 16 (by unfold cG;exact aU T.l0 rfl) T.i0 with h|⟨_,h⟩
  ·exact uD NameKind.ctorIdx (h.symm.trans (c.st.kinds told _ T.l0 (by decide))) rfl
  ·exact h
 refine Co (K:=K) (cd:=cd) (mg':=Q) (q:=q) W Tt RK (λ H B' k=>(oW (Bd (j.keeps k) ?_) (He (j.keeps k)) (@u9 _ (Bd (j.keeps k) ?_) (zq (j.keeps k))) (CW.keeps k))) T D Bn.top c rfl (N.go.keep _ _ id rfl s) rfl (λ h=>aD ((Bn.fresh Pt h).symm.trans s)) rfl hq EV EU EX ?_ (λ vb doc pm c' ct=>(Ja vb _ doc pm c' ct rfl))
  λ t B' B1 ⟨J,NY⟩ y1 y2 y3=>cT t (λ b o n e=>y1 _ _ (B1 _ _ (u b o n e))) ⟨J,y1 _ _ NY⟩ (y2.trans N.go.gens) (y3.trans N.go.os)
 ·exact⟨Y,ws,by rwa[ac x,o d r,-x];exact(aw o (k _ _ d) r),hi⟩
 ·exact⟨Y,ws,by rwa[ac x,o d r,-x];exact(aw o (k _ _ d) r),hi⟩
 ·unfold closureFor
  erw[w4]
  have hc:cellOf f.env told=pure q:=by unfold cellOf;exact aU hq rfl
  simp [hc]
end
end
section
open PySem PySem.W PyProof.Rows
open PySem.Challenge
noncomputable def mJ(st:SharedT->Thread->Option (SharedT×Thread))(a:Thread->Bool):Nat->SharedT->Thread->Option SharedT
 |0,_,_=>none
 |n+1,s,t=>match through t with
  |true=>some s
  |false=>match a t with
   |false=>none
   |true=>match st s t with
    |some (c,b)=>mJ st a n c b
    |none=>none
theorem mI{a:String->Option Builtin}{p:Program}{w:World}{e:Nat}{d:Option Value}:
  ∀ {n:Nat} {s b:SharedT} {t:Thread},mJ (stepT (denote a) p w) (stepOk e d) n s t=some b->topRun a p w e d n s.abs t=some b.abs
 |0,_,_,_,h=>by cases h
 |n+1,s,b,t,h=>by
  unfold mJ at h;unfold topRun
  cases g:through t with
  |true=>rw[g]at h;cases h;rfl
  |false=>
   rw[g]at h
   cases f:stepOk e d t with
   |false=>rw[f]at h;cases h
   |true=>
    rw[f]at h
    cases c:stepT (denote a) p w s t with
    |none=>rw[c]at h;cases h
    |some r=>obtain ⟨j,i⟩:=r;rw[c]at h;rw[stepT_spec c];exact mI h
noncomputable def HZ(os:List Obj):BT:=(os.foldl (fun(x:BT×Nat) o=>(x.1.ins x.2 o,x.2+1)) (BT.nil,0)).1
noncomputable def D8(P:Params):BT:=HZ (boot_heap P).objs.toList
noncomputable def Xp(w:World)(os:OsState):SharedT:=⟨D8 w.params,11,(boot_heap w.params).life,#[],boot_drawn,boot_toks,os⟩
theorem Xl(w:World)(os:OsState):(Xp w os).abs=⟨boot_heap w.params,#[],boot_drawn,boot_toks,os⟩:=by kernel_rfl!
theorem xX(P:Params):((boot_heap P).isNs mainGlobals&& (#[]:Array GenState).size==0,(boot_heap P).objs.size,(boot_heap P).nsMap mainGlobals "__annotations__")=(true,11,some (.ref 6)):=by kernel_rfl!
noncomputable def Ge(s:SharedT)(a:Nat):Option Obj:=match Nat.blt a s.n with
 |true=>(match s.tree.get a with
  |some o=>alive o
  |none=>none)
 |false=>none
theorem Gd{s:SharedT}{a:Nat}{o:Obj}(h:Ge s a=some o):s.abs.heap.get? a=some o:=by
 unfold Ge at h
 split at h
 ·rename_i c
  split at h
  ·rename_i d b;exact(abs_get (Nat.blt_eq.mp c) b).trans h
  ·exact nomatch h
 ·exact nomatch h
theorem xn{p q:Program}{loose:List PySem.Str}{Xt:Shared->Bool}{α:Type}{Yt:SharedT->α}{c:Shared->α}{b:World->α}{N M:Nat}
  (z:opening p=plainProg p.main.scope.names) (x:Nat.ble 600 N=true) (u:∀s,fenceModules? p s=some s) (le:Nat.ble M N=true)
  (v:∀ (w:World) s,Yt s=b w->c s.abs=b w) (run:∀ (w:World) (os:OsState),(mJ (stepT (denote treeTable) p w) (stepOk 11 (some (.ref 6))) M (Xp w os) (topStub p)).map (λ a=>
   ((staticsOk (importedModules p.main.body) (boot_heap w.params) a.abs.heap&&namesBound p a.abs.heap&&gensDone a.abs&&laidKept (boot_heap w.params) a.abs.heap),
    openSeen q loose (importedModules p.main.body) Xt true a.abs,Yt a))=some (true,openGood q loose,b w)):LeftO p q loose Xt c b N:=λ w=>by
 obtain ⟨⟨h,gs,d,k,os⟩,e,y⟩:=Option.map_eq_some_iff.mp (boot_open z x u w);obtain ⟨rfl,rfl,rfl,rfl⟩:h=boot_heap w.params/\gs= #[]/\d=boot_drawn/\k=boot_toks:=by simpa using y
 obtain ⟨i,g,f⟩:_/\_/\_:=by simpa only[Prod.mk.injEq] using xX w.params
 obtain ⟨a,l,j⟩:=Option.map_eq_some_iff.mp (run w os);obtain ⟨o,n,m⟩:_/\_/\_:=by simpa only[Prod.mk.injEq] using j
 have r:=topRun_mono (N - M) _ _ _ _ (mI l);rw[show M+(N - M)=N by have:=Nat.le_of_ble_eq_true le;omega,Xl]at r;have t:topFrom treeTable p w N ⟨boot_heap w.params,#[],boot_drawn,boot_toks,os⟩=some a.abs:=by
  unfold topFrom
  dsimp only
  rw[i,g,f,r];show(match staticsOk (importedModules p.main.body) (boot_heap w.params) a.abs.heap&&namesBound p a.abs.heap&&gensDone a.abs&&laidKept (boot_heap w.params) a.abs.heap with|true=>_|false=>_)=_;rw[o]
 unfold openEnds;rw[e];show(topFrom treeTable p w N _).map _=_;rw[t];exact congrArg some (Prod.ext n (v w a m))
noncomputable def qv:Program:={pw_pb0043_01 with main:={pw_pb0043_01.main with body:=[dA 95]}}
noncomputable def gJ:List PySem.Str:=(pw_pb0043_01.main.body.take 95).flatMap fun
 | .FunctionDef n .. => [n]| .ClassDef n .. => [n]| .Assign [.Name n _] _ _=>if n== "__name__" then []else [n]|_=> []
open PySem.W.Fast in
theorem E9(w:World)(os:OsState):(mJ (tw10156331382660048174 (tw11892475500146522536 tw14364793385576792824) pw_pb0043_01 w) (tw6613529449190102663 11 (some (.ref 6))) 6000 (Xp w os) (topStub pw_pb0043_01)).map (λ a=>
   ((staticsOk (importedModules pw_pb0043_01.main.body) (boot_heap w.params) a.abs.heap&&namesBound pw_pb0043_01 a.abs.heap&&gensDone a.abs&&laidKept (boot_heap w.params) a.abs.heap),
    tw4187177175401517315 qv gJ (importedModules pw_pb0043_01.main.body) (λ _=>true) true a.abs,BU (Ge a)))=some (true,openGood qv gJ,EM w.params):=by kernel_rfl!
open PySem.W.Fast in
theorem E7:tw9446332074065402090 rw_pb0043_01=true:=by kernel_rfl!
open PySem.W.Fast in
theorem BC:rw_pb0043_01.wellSaid=true:=by rw[te9446332074065402090];exact E7
open PySem.W.Fast in
theorem Cn:LeftO pw_pb0043_01 qv gJ (λ _=>true) (λ s=>BU s.heap.get?) (λ w=>EM w.params) 10000:=by rwa[xn (Yt:=λ a=>BU (Ge a)) (M:=6000) (by rfl) (by rfl) (λ s=>rfl) (by rfl) (λ w s e=>mV (λ r _ o x h _=>Gd h) e),w os];have h:=E9 w os;rw[← te10156331382660048174,← te11892475500146522536,← te14364793385576792824,← te6613529449190102663,← te4187177175401517315]at h;exact h
theorem Ic:(defOf qv "law").isSome=true:=by kernel_rfl!
theorem Fa:(defOf qv "law").map (fun x=>(pw_pb0043_01.theDef "law",kwWritten? x.1.params.kwonlyargs x.1.params.kw_defaults))=(defOf qv "law").map (fun x=>(some (x.1.params,x.1.body,x.1.scope),some x.2)):=by kernel_rfl!
theorem head(i:∀d b,defOf qv "law" =some (d,b)→WalkO qv gJ (fun _ _=>True) (fun w h=>BU h.get? =EM w.params) rw_pb0043_01.row.toRowW d b fun f c=>PySem.call f c):rw_pb0043_01.Holds:=by
 rwa[holds_law BC,m];rwa[aW (Option.isSome_iff_exists.mp Ic),l e];obtain ⟨d,b⟩:=l;have a:=Fa;rw[e]at a;simp only[Option.map_some,Option.some.injEq,Prod.mk.injEq]at a;refine holds_open (r:=rw_pb0043_01.row) (q:=qv) (loose:=gJ) (Xt:=λ _=>true) (XP:=λ _ _=>True) (YP:=λ w h=>BU h.get? =EM w.params) Cn (λ _ _ e=>e) (λ _ _ _ e k=>mV (λ r _ o x j _=>k _ _ j) e) (λ _ _=>trivial) (λ _ _ _ _ _=>trivial) e a.1 a.2 (λ s _=>recFacts_nil rfl) (by rfl) m (by decide+kernel) (NF rfl rfl rfl rfl rfl (by decide+kernel)) ?g (i d b e)
 case g=>w_witness2
end
section
open PySem PyProof.Rows PySem.W PySem.Challenge
theorem Fz:((recsOf qv).map fun e=>e.name).contains (Str.ofString "law")=true:=by kernel_rfl!
theorem IU:(defOf qv "law").map (fun x=>x.1.name)=some (Str.ofString "law"):=by kernel_rfl!
theorem walk(d:DefRec)(IW:List (Str×Expr))(V6:defOf qv "law" =some (d,IW)):WalkO qv gJ (fun _ _=>True) (fun w h=>BU h.get? =EM w.params) rw_pb0043_01.row.toRowW d IW fun f vs=>PySem.call f vs:=by
 intro w A ay mg mb G Y fa o pm cd doc dV kV ho hd KV hD Oh hg args y as Vy VJ NW KQ F5;have T:=G.T
 wrow_args Vy VJ NW KQ F5
 rename_i xs _ _ _ _ _ _ _ a0 ws _ hL _ _ _ hI _ hc _;have L:d.name=Str.ofString "law" :=by have:=IU;rw[V6]at this;exact an this
 obtain ⟨b,m⟩:∃B,Bs w.params B/\B=ay.heap:=(aw _ ⟨Y⟩ rfl);obtain ⟨m,rfl⟩:=m;obtain ⟨mg',mb',O⟩:=m.gl;have V0:fa=701:=by have e:=BV T.g O.main "law";rw[O.r5,← L,Oh]at e;exact Value.ref.inj (an e)
 subst V0;rwa[ac (List.mem_map.mp (List.contains_iff_mem.mp Fz)),e he s];rwa[DI (T.tab e he),a o' fd c v z t2 t3 t4 t5 r];have:a=701:=by rw[s,← L,Oh]at z;exact(Value.ref.inj (an z)).symm
 subst this;rwa[m9 (nU (m.a _ tF)),o2 fd2 f1 f2 _ _ _ _ _ _ _ _ Du _];have OE:c=700:=by obtain rfl:=an (t2.symm.trans f1);obtain rfl:=PySem.Data.func.inj (t3.symm.trans f2);exact Value.ref.inj (t4.symm.trans Du)
 subst OE;have hC:=CodeHd.of t5 r;have u:=r.2;have hB:ay.heap.BuiltinsAt mg v:=by
  rwa[qD T.bmain,bm ob b1 b2 j U b5 Q];refine(CM bm ob b1 b2 (λ q=>?_) (λ q=>?_) j U b5 Q)
  ·rwa[cy T.g,og es ep g1 g2 _];rw[q,g1]at j;obtain rfl:=an (j);exact bZ Data.ctorIdx (Q.symm.trans g2) rfl
  ·rw[q,u]at j;obtain rfl:=an (j);exact bZ Value.ctorIdx (U) rfl
 refine enter_call (Cr (ws:=ws) (xs:=xs) Y T.g hC u hB hL hI (mF (.i W0 (.c 1000000)) [.n (.p (.c 63) (.t W0))] (.l [1,1]) rfl hc) λ s' J k k3 k4=>?_);refine(oW (.inl (qj _ (.bool true) ([]) rfl (λ _=>rfl) (.bool true) (by kernel_rfl) (λ _=>⟨List.nodup_nil,λ _ h=>bQ (h)⟩))) ⟨λ b o e=>?_,λ b o e=>?_⟩ k4 (.of_eq (k3.trans hg)))
 ·by_cases q:b=v
  ·subst q;rwa[aW k,H x,-k];obtain rfl:=an (u.symm.trans e);exact .inr (.inl (bN r.isCodeTable rfl ⟨#[],H,rfl,by exact aU Array.empty_append x⟩))
  ·exact .inl (J b o q e)
 ·by_cases q:b=v
  ·subst q;rwa[aW k,H x,-k];exact⟨_,x⟩
  ·exact⟨o,J b o q e⟩
theorem whole:rw_pb0043_01.Holds:=head walk
end
end Mine
theorem PySem.Challenge.cw_pb0043_01_holds : PySem.Challenge.rw_pb0043_01.Holds :=
  Mine.whole
