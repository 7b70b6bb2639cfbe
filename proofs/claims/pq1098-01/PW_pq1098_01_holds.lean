import PyProof.Rows.All
import PyProof.ExcArgs
import PyProof.Rows.SortShellK
import PyProof.Rows.SortStr
import KE.BytesMake
import KE.KBits
import KE.KDictSum
import Wide.FinOn
import OpenK.AllK
import Wide.All
import Lean
import PySem.Challenge.RW_pq1098_01
set_option tactic.hygienic false
set_option genSizeOf false
set_option genSizeOfSpec false
set_option genCtorIdx false
set_option genInjectivity false
set_option linter.all false
set_option Elab.async false
set_option maxRecDepth 100000
set_option maxHeartbeats 2000000
noncomputable section
section
namespace Mine
def Qa:=@Nat.le_trans
def Qb:=@Option.some.inj
def Qc:=@PySem.wpAny_bind
def Qd:=@Nat.le_refl
def Qe:=@if_neg
def Qf:=@Nat.add_le_add
def Qg:=@List.getElem?_eq_some_iff
def Qh:=@if_pos
def Qi:=@List.length_append
def Qj:=@List.getElem?_append_left
def Qk:=@Nat.le_of_eq
def Ql:=@of_decide_eq_true
def Qm:=@Nat.le_of_lt_succ
def Qn:=@List.append_assoc
def Qo:=@List.length_set
def Qp:=@PySem.wpAny_pure
def Qq:=@Nat.le_add_right
def Qr:=@Nat.lt_of_lt_of_le
def Qs:=@Bool.and_eq_true_iff
def Qt:=@congrArg
def Qu:=@PySem.Heap.get?_push_of_some
def Qv:=@Nat.lt_of_le_of_lt
def Qw:=@List.getElem?_eq_getElem
def Qx:=@List.all_eq_true
def Qy:=@Nat.le_of_ble_eq_true
def Qz:=@List.mem_cons
def QA:=@List.getElem?_set_ne
def QB:=@Nat.add_le_add_left
def QC:=@Nat.ne_of_lt
def QD:=@List.getElem?_map
def QE:=@List.getElem?_append_right
def QF:=@List.append_nil
def QG:=@List.length_cons
def QH:=@Nat.not_lt
def QI:=@PySem.Heap.get?_push_size
def QJ:=@Nat.mul_le_mul
def QK:=@List.length_drop
def QL:=@List.length_take
def QM:=@List.mem_singleton
def QN:=@Exists.elim
def QO:=@Nat.zero_le
def QP:=@PySem.Heap.lt_size
def QQ:=@Nat.succ_le_succ
def QR:=@Eq.symm
def QS:=@PySem.Heap.get?_update_other
def QT:=@decide_eq_false
def QU:=@List.length_map
def QV:=@PySem.builtinLookup_eq_fast
def QW:=@Nat.le_of_not_lt
def QX:=@List.getElem?_set_self
def QY:=@decide_eq_true
def QZ:=@PySem.wpAny_of_eq
def Zb:=@PySem.Heap.get?_update_self
def Zc:=@List.size_toArray
def Zd:=@List.mem_append
def Ze:=@List.set_set
def Zf:=@Int.ofNat_lt
def Zg:=@PySem.wpAny_holding
def Zh:=@Int.natCast_nonneg
def Zi:=@UInt8.toNat_ofNat_of_lt'
def Zj:=@PySem.typeLookup_type
def Zk:=@PySem.wpAny_specialOf
def Zm:=@Nat.mul_le_mul_left
def Zn:=@Option.bind_some
def Zo:=@Nat.add_le_add_right
def Zp:=@List.mem_of_getElem?
def Zq:=@Nat.le_of_lt
def Zs:=@Nat.lt_add_of_pos_right
def Zt:=@Nat.add_assoc
def Zu:=@List.map_cons
def Zv:=@Bool.false_ne_true
def Zw:=@Option.map_eq_some_iff
def Zx:=@List.not_mem_nil
def Zy:=@beq_eq_false_iff_ne
def Zz:=@List.mem_map
def ZA:=@Nat.ne_of_gt
def ZB:=@List.getElem?_toArray
def ZC:=@Array.getElem?_toList
def ZD:=@Nat.succ_pos
def ZE:=@Nat.min_eq_left
def ZF:=@Nat.add_right_comm
def ZG:=@Nat.add_sub_cancel_left
def ZH:=@Bool.and_eq_true
def ZI:=@Nat.add_comm
def ZJ:=@Int.ofNat.inj
def ZK:=@List.foldl_append
def ZL:=@List.map_append
theorem aP{G:Prop}(h:a/\b)(f:a->b->G):G:=f h.1 h.2
theorem gx{G:Prop}(h:a/\b/\c)(f:a->b->c->G):G:=f h.1 h.2.1 h.2.2
theorem gF{G:Prop}(h:a/\b/\c/\d)(f:a->b->c->d->G):G:=f h.1 h.2.1 h.2.2.1 h.2.2.2
theorem acu{G:Prop}(h:a/\b/\c/\d/\e)(f:a->b->c->d->e->G):G:=f h.1 h.2.1 h.2.2.1 h.2.2.2.1 h.2.2.2.2
theorem bC{a:b->Prop}{G:Prop}(h:∃x,a x)(f:∀x,a x->G):G:=QN h f
theorem aT{a b:c->Prop}{G:Prop}(h:∃x,a x/\b x)(f:∀x,a x->b x->G):G:=QN h λx h=>aP h<|f x
theorem eI{a b c:d->Prop}{G:Prop}(h:∃x,a x/\b x/\c x)(f:∀x,a x->b x->c x->G):G:=QN h λx h=>gx h<|f x
theorem zc{a b c d:e->Prop}{G:Prop}(h:∃x,a x/\b x/\c x/\d x)(f:∀x,a x->b x->c x->d x->G):G:=QN h λx h=>gF h<|f x
theorem amP{a b c d e i:g->Prop}{G:Prop}(h:∃x,a x/\b x/\c x/\d x/\e x/\i x)(f:∀x,a x->b x->c x->d x->e x->i x->G):G:=QN h λx h=>f x h.1 h.2.1 h.2.2.1 h.2.2.2.1 h.2.2.2.2.1 h.2.2.2.2.2
theorem anY{a b c d e i j:g->Prop}{G:Prop}(h:∃x,a x/\b x/\c x/\d x/\e x/\i x/\j x)(f:∀x,a x->b x->c x->d x->e x->i x->j x->G):G:=QN h λx h=>f x h.1 h.2.1 h.2.2.1 h.2.2.2.1 h.2.2.2.2.1 h.2.2.2.2.2.1 h.2.2.2.2.2.2
theorem ip{a:c->d->Prop}{G:Prop}(h:∃b x1,a b x1)(f:∀b x1,a b x1->G):G:=QN h λx h=>bC h<|f x
theorem cM{a b:d->e->Prop}{G:Prop}(h:∃c x1,a c x1/\b c x1)(f:∀c x1,a c x1->b c x1->G):G:=QN h λx h=>aT h<|f x
theorem dN{a b c:e->g->Prop}{G:Prop}(h:∃d x1,a d x1/\b d x1/\c d x1)(f:∀d x1,a d x1->b d x1->c d x1->G):G:=QN h λx h=>eI h<|f x
theorem zd{a b c d:g->i->Prop}{G:Prop}(h:∃e x1,a e x1/\b e x1/\c e x1/\d e x1)(f:∀e x1,a e x1->b e x1->c e x1->d e x1->G):G:=QN h λx h=>zc h<|f x
theorem alo{a b c d e i:j->k->Prop}{G:Prop}(h:∃g x1,a g x1/\b g x1/\c g x1/\d g x1/\e g x1/\i g x1)(f:∀g x1,a g x1->b g x1->c g x1->d g x1->e g x1->i g x1->G):G:=QN h λx h=>amP h<|f x
theorem ze{a:d->e->g->Prop}{G:Prop}(h:∃b x1 c,a b x1 c)(f:∀b x1 c,a b x1 c->G):G:=QN h λx h=>ip h<|f x
theorem oq{a b:e->g->i->Prop}{G:Prop}(h:∃c x1 d,a c x1 d/\b c x1 d)(f:∀c x1 d,a c x1 d->b c x1 d->G):G:=QN h λx h=>cM h<|f x
theorem kf{a b c:g->i->j->Prop}{G:Prop}(h:∃d x1 e,a d x1 e/\b d x1 e/\c d x1 e)(f:∀d x1 e,a d x1 e->b d x1 e->c d x1 e->G):G:=QN h λx h=>dN h<|f x
theorem ahg{a b c d:i->j->k->Prop}{G:Prop}(h:∃e x1 g,a e x1 g/\b e x1 g/\c e x1 g/\d e x1 g)(f:∀e x1 g,a e x1 g->b e x1 g->c e x1 g->d e x1 g->G):G:=QN h λx h=>zd h<|f x
theorem ahh{a b c d e i:k->l->m->Prop}{G:Prop}(h:∃g x1 j,a g x1 j/\b g x1 j/\c g x1 j/\d g x1 j/\e g x1 j/\i g x1 j)(f:∀g x1 j,a g x1 j->b g x1 j->c g x1 j->d g x1 j->e g x1 j->i g x1 j->G):G:=QN h λx h=>alo h<|f x
theorem kg{a:e->g->i->j->Prop}{G:Prop}(h:∃b x1 c d,a b x1 c d)(f:∀b x1 c d,a b x1 c d->G):G:=QN h λx h=>ze h<|f x
theorem amQ{a b c d:j->k->l->m->Prop}{G:Prop}(h:∃e x1 g i,a e x1 g i/\b e x1 g i/\c e x1 g i/\d e x1 g i)(f:∀e x1 g i,a e x1 g i->b e x1 g i->c e x1 g i->d e x1 g i->G):G:=QN h λx h=>ahg h<|f x
theorem acv{a b c d e i j:m->n->o->p->Prop}{G:Prop}(h:∃g x1 k l,a g x1 k l/\b g x1 k l/\c g x1 k l/\d g x1 k l/\e g x1 k l/\i g x1 k l/\j g x1 k l)(f:∀g x1 k l,a g x1 k l->b g x1 k l->c g x1 k l->d g x1 k l->e g x1 k l->i g x1 k l->j g x1 k l->G):G:=QN h λg h=>QN h λx1 h=>QN h λk h=>QN h λl h=>f g x1 k l h.1 h.2.1 h.2.2.1 h.2.2.2.1 h.2.2.2.2.1 h.2.2.2.2.2.1 h.2.2.2.2.2.2
theorem amR{a b c d:k->l->m->n->o->Prop}{G:Prop}(h:∃e x1 g i j,a e x1 g i j/\b e x1 g i j/\c e x1 g i j/\d e x1 g i j)(f:∀e x1 g i j,a e x1 g i j->b e x1 g i j->c e x1 g i j->d e x1 g i j->G):G:=QN h λx h=>amQ h<|f x
theorem amS{a b c d e i j:n->o->p->q->r->Prop}{G:Prop}(h:∃g x1 k l m,a g x1 k l m/\b g x1 k l m/\c g x1 k l m/\d g x1 k l m/\e g x1 k l m/\i g x1 k l m/\j g x1 k l m)(f:∀g x1 k l m,a g x1 k l m->b g x1 k l m->c g x1 k l m->d g x1 k l m->e g x1 k l m->i g x1 k l m->j g x1 k l m->G):G:=QN h λx h=>acv h<|f x
theorem alp{a b:j->k->l->m->n->o->Prop}{G:Prop}(h:∃c x1 d e g i,a c x1 d e g i/\b c x1 d e g i)(f:∀c x1 d e g i,a c x1 d e g i->b c x1 d e g i->G):G:=QN h λc h=>QN h λx1 h=>QN h λd h=>QN h λe h=>QN h λg h=>QN h λi h=>f c x1 d e g i h.1 h.2
theorem amT{a b:k->l->m->n->o->p->q->Prop}{G:Prop}(h:∃c x1 d e g i j,a c x1 d e g i j/\b c x1 d e g i j)(f:∀c x1 d e g i j,a c x1 d e g i j->b c x1 d e g i j->G):G:=QN h λx h=>alp h<|f x
theorem bv{a b:c->Prop}(x:c)(d:a x)(e:b x):∃x,a x/\b x:=⟨x,d,e⟩
theorem cz{a b c:d->Prop}(x:d)(e:a x)(f:b x)(g:c x):∃x,a x/\b x/\c x:=⟨x,e,f,g⟩
theorem pZ{a b c d:e->Prop}(x:e)(f:a x)(g:b x)(h:c x)(i:d x):∃x,a x/\b x/\c x/\d x:=⟨x,f,g,h,i⟩
theorem fK{a:c->d->Prop}(b:c)(x1:d)(e:a b x1):∃b x1,a b x1:=⟨b,x1,e⟩
theorem qc{a b:d->e->Prop}(c:d)(x1:e)(f:a c x1)(g:b c x1):∃c x1,a c x1/\b c x1:=⟨c,x1,f,g⟩
theorem qe{a b c:e->f->Prop}(d:e)(x1:f)(g:a d x1)(h:b d x1)(i:c d x1):∃d x1,a d x1/\b d x1/\c d x1:=⟨d,x1,g,h,i⟩
theorem wc{a b c d:f->g->Prop}(e:f)(x1:g)(h:a e x1)(i:b e x1)(j:c e x1)(k:d e x1):∃e x1,a e x1/\b e x1/\c e x1/\d e x1:=⟨e,x1,h,i,j,k⟩
theorem ahU{a b c d e:g->h->Prop}(f:g)(x1:h)(i:a f x1)(j:b f x1)(k:c f x1)(l:d f x1)(m:e f x1):∃f x1,a f x1/\b f x1/\c f x1/\d f x1/\e f x1:=⟨f,x1,i,j,k,l,m⟩
theorem aeA{a b c d e i:g->h->Prop}(f:g)(x1:h)(j:a f x1)(k:b f x1)(l:c f x1)(m:d f x1)(n:e f x1)(o:i f x1):∃f x1,a f x1/\b f x1/\c f x1/\d f x1/\e f x1/\i f x1:=⟨f,x1,j,k,l,m,n,o⟩
theorem alq{a b:e->f->g->Prop}(c:e)(x1:f)(d:g)(h:a c x1 d)(i:b c x1 d):∃c x1 d,a c x1 d/\b c x1 d:=⟨c,x1,d,h,i⟩
theorem vg{a b c:f->g->h->Prop}(d:f)(x1:g)(e:h)(i:a d x1 e)(j:b d x1 e)(k:c d x1 e):∃d x1 e,a d x1 e/\b d x1 e/\c d x1 e:=⟨d,x1,e,i,j,k⟩
theorem vh{a b c d:g->h->i->Prop}(e:g)(x1:h)(f:i)(j:a e x1 f)(k:b e x1 f)(l:c e x1 f)(m:d e x1 f):∃e x1 f,a e x1 f/\b e x1 f/\c e x1 f/\d e x1 f:=⟨e,x1,f,j,k,l,m⟩
theorem ahi{a b c d e i:h->j->k->Prop}(f:h)(x1:j)(g:k)(l:a f x1 g)(m:b f x1 g)(n:c f x1 g)(o:d f x1 g)(p:e f x1 g)(q:i f x1 g):∃f x1 g,a f x1 g/\b f x1 g/\c f x1 g/\d f x1 g/\e f x1 g/\i f x1 g:=⟨f,x1,g,l,m,n,o,p,q⟩
theorem ahV{a:e->f->g->h->Prop}(b:e)(x1:f)(c:g)(d:h)(i:a b x1 c d):∃b x1 c d,a b x1 c d:=⟨b,x1,c,d,i⟩
theorem aeB{a b c:g->h->i->j->Prop}(d:g)(x1:h)(e:i)(f:j)(k:a d x1 e f)(l:b d x1 e f)(m:c d x1 e f):∃d x1 e f,a d x1 e f/\b d x1 e f/\c d x1 e f:=⟨d,x1,e,f,k,l,m⟩
theorem anZ{a b c d:h->i->j->k->Prop}(e:h)(x1:i)(f:j)(g:k)(l:a e x1 f g)(m:b e x1 f g)(n:c e x1 f g)(o:d e x1 f g):∃e x1 f g,a e x1 f g/\b e x1 f g/\c e x1 f g/\d e x1 f g:=⟨e,x1,f,g,l,m,n,o⟩
theorem ahj{a b c d e i j:k->l->m->n->Prop}(f:k)(x1:l)(g:m)(h:n)(o:a f x1 g h)(p:b f x1 g h)(q:c f x1 g h)(r:d f x1 g h)(s:e f x1 g h)(t:i f x1 g h)(u:j f x1 g h):∃f x1 g h,a f x1 g h/\b f x1 g h/\c f x1 g h/\d f x1 g h/\e f x1 g h/\i f x1 g h/\j f x1 g h:=⟨f,x1,g,h,o,p,q,r,s,t,u⟩
theorem aoa{a b c d e i j k l:o->p->q->r->s->t->Prop}(f:o)(x1:p)(g:q)(h:r)(m:s)(n:t)(u:a f x1 g h m n)(v:b f x1 g h m n)(w:c f x1 g h m n)(x:d f x1 g h m n)(y:e f x1 g h m n)(z:i f x1 g h m n)(A:j f x1 g h m n)(B:k f x1 g h m n)(C:l f x1 g h m n):∃f x1 g h m n,a f x1 g h m n/\b f x1 g h m n/\c f x1 g h m n/\d f x1 g h m n/\e f x1 g h m n/\i f x1 g h m n/\j f x1 g h m n/\k f x1 g h m n/\l f x1 g h m n:=⟨f,x1,g,h,m,n,u,v,w,x,y,z,A,B,C⟩
theorem aob{a b:j->k->l->m->n->o->p->q->Prop}(c:j)(x1:k)(d:l)(e:m)(f:n)(g:o)(h:p)(i:q)(r:a c x1 d e f g h i)(s:b c x1 d e f g h i):∃c x1 d e f g h i,a c x1 d e f g h i/\b c x1 d e f g h i:=⟨c,x1,d,e,f,g,h,i,r,s⟩
theorem amU{a b c:k->l->m->n->o->p->q->r->Prop}(d:k)(x1:l)(e:m)(f:n)(g:o)(h:p)(i:q)(j:r)(s:a d x1 e f g h i j)(t:b d x1 e f g h i j)(u:c d x1 e f g h i j):∃d x1 e f g h i j,a d x1 e f g h i j/\b d x1 e f g h i j/\c d x1 e f g h i j:=⟨d,x1,e,f,g,h,i,j,s,t,u⟩
theorem aoc{a b c d e i j k:p->q->r->s->t->u->v->w->Prop}(f:p)(x1:q)(g:r)(h:s)(l:t)(m:u)(n:v)(o:w)(x:a f x1 g h l m n o)(y:b f x1 g h l m n o)(z:c f x1 g h l m n o)(A:d f x1 g h l m n o)(B:e f x1 g h l m n o)(C:i f x1 g h l m n o)(D:j f x1 g h l m n o)(E:k f x1 g h l m n o):∃f x1 g h l m n o,a f x1 g h l m n o/\b f x1 g h l m n o/\c f x1 g h l m n o/\d f x1 g h l m n o/\e f x1 g h l m n o/\i f x1 g h l m n o/\j f x1 g h l m n o/\k f x1 g h l m n o:=⟨f,x1,g,h,l,m,n,o,x,y,z,A,B,C,D,E⟩
@[elab_as_elim] theorem af{P:c->Prop}(e:a=b)(p:P b):P a:=e ▸p
@[elab_as_elim] theorem cI{P:c->Prop}(e:a=b)(p:P a):P b:=e ▸p
theorem dy{G:Prop}(k:∀x,o=some x->f x=some y->G)(h:o.bind f=some y):G:=by cases o with|none=>injection h|some x=>exact k x rfl h
theorem ey[d:Decidable c]{G:Prop}(k:c->o=some y->G)(h:(if c then o else none)=some y):G:=by cases d with|isTrue q=>exact k q h|isFalse q=>injection h
theorem aU{x c d:Nat}(h:x<=c)(e:Nat.ble c d=true:=by exact Eq.refl true):x<=d:=Qa h<|Qy e
theorem eJ{x c d:Nat}(h:x<=c)(e:Nat.ble (c+1) d=true:=by exact Eq.refl true):x<d:=Qv h<|Qy e
theorem mj{x c d:Nat}(h:x<=c)(e:Nat.ble (c+1) d=true:=by exact Eq.refl true):x≠d:=QC<|eJ h e
theorem acw{x c d:Nat}(h:c<=x)(e:Nat.ble d c=true:=by exact Eq.refl true):d<=x:=Qa (Qy e) h
theorem aeC{x c d:Nat}(h:c<=x)(e:Nat.ble (d+1) c=true:=by exact Eq.refl true):x≠d:=λq=>by subst q;exact Nat.lt_irrefl _<|Qa (Qy e) h
theorem zA{x c:Nat}{d:Int}(h:x<=c)(e:decide ((c:Int)<d)=true:=by exact Eq.refl true):(x:Int)<d:=Int.lt_of_le_of_lt (Int.ofNat_le.mpr h)<|Ql e
theorem zeq{a b:Nat}{k:Int}(h:k<a)(e:b=a):k<b:=e ▸h
theorem st1{x y r n:Nat}(g:y<=x+1)(h:x+(r+1)<=n):y+r<=n:=Qa (Zo g r)<|Qa (Qk<|by rw [Zt,ZI 1]) h
theorem amV{a b:Nat}(h:¬a=b)(g:¬a<b):b<a:=Nat.lt_of_le_of_ne (QH.mp g)<|λe=>h e.symm
theorem ahW{x y n:Nat}(e:y=x+n):x<=y:=e ▸Qq ..
theorem ot{a x y n:Nat}(h:a<x)(e:y=x+n):a<y:=Qr h<|ahW e
theorem aeD{a x n:Nat}(h:a<x):¬a=x+n:=QC<|Qr h<|Qq ..
theorem acx{x n:Nat}(h:x<n):n=n - 1+1:=(Nat.sub_add_cancel<|Qa (QQ<|QO _) h).symm
theorem atl{k n:Nat}(h:¬k<n)(g:k<n+1):k=n:=Nat.le_antisymm (Qm g)<|QH.mp h
theorem st2{x y z r:Nat}(g:y<=x+1)(h:z<=y+r):z<=x+(r+1):=Qa h<|Qa (Zo g r)<|Qk (by rw [Zt,ZI 1])
theorem mT{x c d:Nat}(h:c<=x)(e:Nat.ble (d+1) c=true:=by exact Eq.refl true):d<x:=Qr (Qy e) h
theorem aod{a b:Nat}(h:b<=a):(a:Int) - b=((a - b:Nat):Int):=(Int.ofNat_sub h).symm
theorem zne{a b:Nat}(h:¬a=b):¬(a:Int)=(b:Int):=λe=>h<|ZJ e
theorem znl{a b:Nat}(h:¬a<b):¬(a:Int)<(b:Int):=λe=>h<|Zf.mp e
theorem amW{x y n:Nat}(e:y=x+n)(d:Nat.ble 1 n=true:=by exact Eq.refl true):x<y:=e ▸Zs (Qy d)
theorem alr{x n d:Nat}(h:x+1=n)(e:Nat.ble (d+1) n=true:=by exact Eq.refl true):d<=x:=Nat.le_of_succ_le_succ<|Qa (Qy e)<|Qk h.symm
theorem amX{x n d:Nat}(h:n<=x+1)(e:Nat.ble (d+1) n=true:=by exact Eq.refl true):d<=x:=Nat.le_of_succ_le_succ<|Qa (Qy e) h
theorem aoe{x n:Nat}(h:x+1=n+1):x=n:=Nat.succ.inj h
theorem alL{a b c d:Nat}(h:¬b<a+c)(e:Nat.ble d c=true:=by exact Eq.refl true):a+d<=b:=Qa (QB (Qy e) a)<|QH.mp h
theorem uz{a b c d:Nat}(h:a+c<=b)(e:Nat.ble d c=true:=by exact Eq.refl true):a+d<=b:=Qa (QB (Qy e) a) h
theorem afx{a c d:Nat}(e:Nat.ble d c=true:=by exact Eq.refl true):a+d<=a+c:=QB (Qy e) a
theorem dd{p:Prop}[d:Decidable p](h:decide p=true:=by exact Eq.refl true):p:=Ql h
theorem lb{a b:Nat}(h:Nat.ble a b=true:=by exact Eq.refl true):a<=b:=Qy h
theorem nb{a b:Nat}(h:Nat.beq a b=false:=by exact Eq.refl false):a≠b:=Nat.ne_of_beq_eq_false h
theorem leq{x y c:Nat}(e:x=y)(g:c<=y):c<=x:=e ▸g
theorem afy{x:Nat}:x<=8*((x+7)/ 8):=Nat.le_of_add_le_add_right<|Qm<|Nat.lt_mul_div_succ (x+7) (by decide:0<8)
theorem amY{x n:Nat}(h:x<=8*n):(x+7)/ 8<=n:=Qm<|(Nat.div_lt_iff_lt_mul<|by decide).mpr<|Qv (Zo h 7) (by rw [Nat.mul_comm 8 n,Nat.succ_mul];exact Nat.lt_succ_self _)
theorem aof{x n:Nat}(h:¬x<=8*n):n<(x+7)/ 8:=Nat.lt_of_not_le λq=>h<|Qa afy<|Zm 8 q
theorem ahX{a m e:Nat}(h:a+m<=8*e):8*(e - a/ 8)=(8*e - (a+m))+m+a%8:=by
  have q:=Nat.div_add_mod a 8
  rw [Nat.mul_sub]
  generalize a/ 8=k at*
  generalize a%8=r at*
  subst q
  rw [Nat.sub_add_eq,Nat.sub_add_cancel<|Nat.le_sub_of_add_le' h,Nat.sub_add_eq,Nat.sub_add_cancel<|Nat.le_sub_of_add_le'<|Qa (Qq ..) h]
theorem afz{w:Nat}(h:w<65536):2*(2*(2*((w:Int)/ 2/ 2/ 2%8192)))=((w/ 8*8:Nat):Int):=by
  show((2*(2*(2*(w/ 2/ 2/ 2%8192))):Nat):Int)=_
  rw [Nat.div_div_eq_div_mul,Nat.div_div_eq_div_mul,Nat.mod_eq_of_lt<|(Nat.div_lt_iff_lt_mul<|by decide).mpr h,←Nat.mul_assoc,←Nat.mul_assoc,Nat.mul_comm]
theorem alM{v:Nat}(h:v<65536):v/ 256%2^8*256+v%256%2^8=v:=by
  rw [Nat.mod_eq_of_lt<|(Nat.div_lt_iff_lt_mul<|by decide).mpr h,Nat.mod_mod,Nat.mul_comm,Nat.div_add_mod]
theorem afA{n k f:Nat}(h:n - k<f+1)(q:k<n):n - (k+1)<f:=Qr (Nat.sub_lt_sub_left q<|Nat.lt_succ_self k)<|Qm h
theorem st3{x d e c r n:Nat}(A:x<=d+e)(B:e<=c)(b:d+c*(r+1)<=n):x+c*r<=n:=Qa (Zo (Qa A<|QB B d) _)<|Qa (Qk<|by rw [Nat.mul_succ,Zt,ZI c]) b
end Mine
end
section
open PySem PySem.W PyProof.Rows
namespace Mine
inductive V where
 |C|E (b:Bool)|A (i:Int)|D (s:Str)|G (l:List UInt8)
 |F (l:List V)|I (n:Int)|B (i:Nat)|H (x:Nat)
inductive O where
 |A (l:List V)|B (l:List (Str×V)) (ep:Option Nat)|D (l:List UInt8)|C (c:Str) (fs:List (Str×V))
noncomputable abbrev Hp:=List O
noncomputable def vC(d:a)(v:V)(none:a:=d)(bool:Bool->a:=λ_=>d)(int:Int->a:=λ_=>d)(str:Str->a:=λ_=>d)(bytes:List UInt8->a:=λ_=>d)(tup:List V->a:=λ_=>d)(rng:Int->a:=λ_=>d)(ref:Nat->a:=λ_=>d)(glob:Nat->a:=λ_=>d):a:=
 V.casesOn (motive_1:=λ_=>a) v none bool int str bytes tup rng ref glob
noncomputable def oC(d:a)(o:O)(list:List V->a:=λ_=>d)(dict:List (Str×V)->Option Nat->a:=λ_ _=>d)(barr:List UInt8->a:=λ_=>d)(inst:Str->List (Str×V)->a:=λ_ _=>d):a:=
 O.casesOn (motive:=λ_=>a) o list dict barr inst
def V.ctorIdx(v:V):Nat:=vC 0 v (bool:=λ_=>1) (int:=λ_=>2) (str:=λ_=>3) (bytes:=λ_=>4) (tup:=λ_=>5) (rng:=λ_=>6) (ref:=λ_=>7) (glob:=λ_=>8)
def O.ctorIdx(o:O):Nat:=oC 0 o (dict:=λ_ _=>1) (barr:=λ_=>2) (inst:=λ_ _=>3)
theorem V.A.inj(h:V.A a=.A b):a=b:=by injection h
theorem V.F.inj(h:V.F a=.F b):a=b:=by injection h
noncomputable def lC(d:a)(f:b->List b->a)(l:List b):a:=List.casesOn (motive:=λ_=>a) l d f
def sC(d:a)(f:b->a)(l:List b):a:=lC d (λx r=>lC (f x) (λ_ _=>d) r) l
inductive bJ(α:Type) where
 |ok (a:α) (H:Hp)
 |Ac (c:Str) (why:Str) (H:Hp)
 |Ab
noncomputable def bJ.ctorIdx(r:bJ a):Nat:=bJ.casesOn (motive:=λ_=>Nat) r (λ_ _=>0) (λ_ _ _=>1) 2
theorem bJ.ok.inj{a b:c}{H K:Hp}(h:bJ.ok a H=.ok b K):a=b/\H=K:=by injection h with x y;exact⟨x,y⟩
def bJ.Aa(r:bJ b)(f:b->Hp->bJ a):bJ a:=bJ.casesOn (motive:=λ_=>bJ a) r f .Ac .Ab
def AM(a:Type):=Hp->bJ a
namespace AM
noncomputable def Ab(a:b):AM b:=λH=>.ok a H
def Ac:AM a:=λ_=>.Ab
noncomputable def Aa(m:AM a)(f:a->AM b):AM b:=λH=>(m H).Aa f
end AM
def bX(i:Nat):AM O:=λH=>H[i]?.elim .Ab λo=>.ok o H
def ml(i:Nat)(o:O):AM Unit:=λH=>if i<H.length then .ok () (H.set i o) else .Ab
noncomputable def jp(o:O):AM V:=λH=>.ok (.B H.length)<|H++[o]
inductive X where
 |J|S (b:Bool)|B (i:Int)|C (s:Str)|V (l:List UInt8)
 |A (i:Nat)|F (x:Nat)
 |L (e:X) (a:Str)
 |H (e i:X)
 |N (e a b:X)
 |E (op:Operator) (a b:X)
 |T (a:X)
 |U (a:X)
 |P (isAnd:Bool) (l:List X)
 |I (op:CmpOp) (a b:X)
 |O (c a b:X)
 |D (l:List X)
 |M (l:List X)
 |Q (ks:List Str) (vs:List X)
 |G (f:X) (args:List X)
 |K (f:Str) (args:List X)
 |R (o:X) (name:Str) (args:List X)
inductive T where
 |A (i:Nat)|C (e:X) (a:Str)|B (e i:X)|D (l:List T)
inductive S where
 |A (t:T) (e:X)
 |G (is:List Nat) (e:X)
 |J (i:Nat) (op:Operator) (e:X)
 |D (e:X)
 |C (c:X) (a b:List S)
 |H (c:X) (b:List S)
 |E (t:T) (it:X) (b:List S)
 |B (e:X)
 |I
 |F (c:Str) (e:X)
 |K (b:List S) (c:Str) (i:Nat) (h:List S)
noncomputable abbrev Lc:=Nat->Option V
noncomputable def Lc.Aa(l:Lc)(i:Nat)(v:V):Lc:=λj=>if j=i then some v else l j
inductive Fl where
 |Aa|Ac|Ab (v:V)
noncomputable def Fl.ctorIdx(r:Fl):Nat:=Fl.casesOn (motive:=λ_=>Nat) r 0 1 λ_=>2
def aB(x:Str)(l:List (Str×V)):Option V:=List.rec (motive:=λ_=>Option V) none (λp _ a=>if p.1=x then some p.2 else a) l
def bz(x:Str)(v:V)(l:List (Str×V)):List (Str×V):=List.rec (motive:=λ_=>List<|Str×V) [(x,v)] (λp r a=>if p.1=x then(p.1,v)::r else p::a) l
noncomputable def vi(x:Str)(l:List (Str×V)):Bool:=l.any λp=>p.1 ==x
def lP(x:Str)(v:V)(l:List (Str×V))(ep:Option Nat):O:=.B (bz x v l)<|if vi x l then ep else ep.map (·+1)
def cs(o:Option a)(f:a->AM b):AM b:=o.elim AM.Ac f
def be(p:Prop)[Decidable p](f:AM a):AM a:=if p then f else AM.Ac
def di(v:V):AM Bool:=vC AM.Ac v (bool:=AM.Ab)
def kh(v:V)(a:Str):AM V:=
 vC AM.Ac v (ref:=λi=>AM.Aa (bX i)<|λb=>oC AM.Ac b (inst:=λ_ fs=>cs (aB a fs) AM.Ab))
noncomputable def jq(c:Str):Bool:=c =="Ether"||c =="Packet"||c =="Scene"||c =="Talk"
def ki(v:V)(a:Str)(u:V):AM Unit:=
 vC AM.Ac v (ref:=λi=>AM.Aa (bX i)<|λb=>oC AM.Ac b (inst:=λc fs=>be (jq c=true/\fs.length<100)<|ml i<|.C c<|bz a u fs))
noncomputable def idx(k:Int)(n:Nat):Option Nat:=if 0<=k/\k<n/\n<=1000000 then some k.toNat else none
def nZ(v k:V):AM V:=
 vC AM.Ac v
  (tup:=λl=>vC AM.Ac k (int:=λk=>cs (idx k l.length) λj=>cs l[j]? AM.Ab))
  (bytes:=λl=>vC AM.Ac k (int:=λk=>cs (idx k l.length) λj=>cs l[j]? λx=>AM.Ab<|.A x.toNat))
  (ref:=λi=>vC AM.Ac k
   (int:=λk=>AM.Aa (bX i) (λa=>oC AM.Ac a
    (list:=λl=>cs (idx k l.length) λj=>cs l[j]? AM.Ab)
    (barr:=λl=>cs (idx k l.length) λj=>cs l[j]? λx=>AM.Ab<|.A x.toNat)))
   (str:=λx=>AM.Aa (bX i)<|λa=>oC AM.Ac a (dict:=λl _=>cs (aB x l) AM.Ab)))
abbrev cx(n:Nat):Prop:=n<=16777216
def fQ(v k u:V):AM Unit:=
 vC AM.Ac v (ref:=λi=>vC AM.Ac k
  (int:=λk=>AM.Aa (bX i)<|λa=>oC AM.Ac a (list:=λl=>cs (idx k l.length) λj=>ml i<|.A<|l.set j u))
  (str:=λx=>AM.Aa (bX i)<|λa=>oC AM.Ac a (dict:=λl ep=>be (cx l.length)<|ml i<|lP x u l ep)))
noncomputable def bM(a b:Nat)(l:List c):List c:=(l.take b).drop a
def wd(v:V)(d:Nat):Option Nat:=vC none v (none:=some d) (int:=λk=>if 0<=k/\k<2^62 then some k.toNat else none)
def kj(v a b:V):AM V:=
 vC AM.Ac v
  (bytes:=λl=>cs (wd a 0) λi=>cs (wd b l.length) λj=>be (cx l.length)<|AM.Ab<|.G<|bM i j l)
  (ref:=λr=>AM.Aa (bX r) (λc=>oC AM.Ac c
   (list:=λl=>cs (wd a 0) λi=>cs (wd b l.length) λj=>be (cx l.length)<|jp<|.A<|bM i j l)
   (barr:=λl=>cs (wd a 0) λi=>cs (wd b l.length) λj=>be (cx l.length)<|jp<|.D<|bM i j l)))
noncomputable def opC(d:a)(op:Operator)(add:a:=d)(sub:a:=d)(mult:a:=d)(mod:a:=d)(pow:a:=d)(shl:a:=d)(shr:a:=d)(or:a:=d)(and:a:=d)(fdiv:a:=d):a:=
 Operator.casesOn (motive:=λ_=>a) op add sub mult d d mod pow shl shr or d and fdiv
open Classical in
def aaW(op:Operator)(a b:Int):AM V:=
 opC AM.Ac op
  (add:=AM.Ab<|.A<|a+b)
  (sub:=AM.Ab<|.A<|a - b)
  (mult:=be (IntMulOk a b)<|AM.Ab<|.A<|a*b)
  (fdiv:=be (0<b/\Builtin.Int.intBits b<=8000)<|AM.Ab<|.A<|a/ b)
  (mod:=be (0<b)<|AM.Ab<|.A<|a%b)
  (pow:=be (a=2/\0<=b/\b<4096)<|AM.Ab<|.A<|2^b.toNat)
  (shl:=be (0<=b/\b<4096/\Builtin.Int.intBits a<=100000)<|AM.Ab<|.A<|a*2^b.toNat)
  (shr:=be (0<=b)<|AM.Ab<|.A<|a/ 2^b.toNat)
  (and:=AM.Ab<|.A<|Builtin.bitAnd a b)
  (or:=AM.Ab<|.A<|Builtin.bitOr a b)
def mq(op:Operator)(a b:V):AM V:=
 vC AM.Ac a
  (int:=λx=>vC AM.Ac b (int:=aaW op x))
  (str:=λx=>vC AM.Ac b (str:=λy=>opC AM.Ac op (add:=be (cx<|x.length+y.length)<|AM.Ab<|.D<|x++y)))
  (ref:=λi=>vC AM.Ac b
   (ref:=λj=>AM.Aa (bX i) λo=>AM.Aa (bX j) λp=>opC AM.Ac op (add:=oC AM.Ac o (list:=λl=>oC AM.Ac p (list:=λr=>be (cx<|l.length+r.length)<|jp<|.A<|l++r))))
   (int:=λn=>AM.Aa (bX i) λo=>opC AM.Ac op (mult:=oC AM.Ac o (list:=sC AM.Ac λv=>be (0<=n/\n<1000)<|jp<|.A<|List.replicate n.toNat v))))
def cC(f:b->Option a)(l:List b):Option (List a):=List.rec (motive:=λ_=>Option<|List a) (some []) (λx _ c=>(f x).bind λy=>c.map (y::·)) l
def toPy(n:Nat)(H:Hp):V->Option PyData:=Nat.rec (motive:=λ_=>V->Option PyData) (λ_=>none) (λ_ a=>λc=>vC none c
 (none:=some .none) (bool:=λb=>some<|.bool b) (int:=λi=>some<|.int i) (str:=λx=>some<|.str x)
 (tup:=λl=>(cC a l).map .tuple)
 (ref:=λi=>H[i]?.elim none (λd=>oC none d (list:=λl=>(cC a l).map .list)))) n
def eqP(H:Hp)(a b:V):Option Bool:=(toPy 8 H a).bind λd=>(toPy 8 H b).bind λe=>if SeqAt.shaped d&&SeqAt.shaped e then some (PyData.eqv d e) else none
def fN(H:Hp)(v:V):Option (List<|Str×V):=vC none v (ref:=λi=>H[i]?.elim none (λa=>oC none a (dict:=λl _=>some l)))
def rF(H:Hp)(r l:List (Str×V)):Option Bool:=List.rec (motive:=λ_=>Option Bool) (some true) (λp _ a=>(aB p.1 r).elim (some false) λy=>(eqP H p.2 y).bind λb=>a.map (b&&·)) l
def eqD(H:Hp)(a b:V):Option Bool:=(fN H a).elim (eqP H a b) λl=>(fN H b).elim (eqP H a b) λr=>if l.length=r.length then rF H r l else some false
def eqV(H:Hp)(a b:V):Option Bool:=vC (eqD H a b) a (bytes:=λx=>vC (eqD H a b) b (bytes:=λy=>some (decide (x=y))))
def ou(i:Int)(l:List V):Option Bool:=List.rec (motive:=λ_=>Option Bool) (some false) (λv _ a=>vC none v (int:=λj=>a.map (decide (j=i)||·))) l
def oy(i:Str)(l:List V):Option Bool:=List.rec (motive:=λ_=>Option Bool) (some false) (λv _ a=>vC none v (str:=λj=>a.map (decide (j=i)||·))) l
def dH(v:V):Bool:=vC false v (none:=true)
def inA(x v:V)(H:Hp):Option Bool:=
 vC none v
  (tup:=λl=>vC none x (int:=λi=>ou i l) (str:=λi=>oy i l))
  (ref:=λi=>vC none x (str:=λk=>H[i]?.elim none (λa=>oC none a (dict:=λl _=>some<|vi k l))))
def zB(b:Option Bool):AM V:=λH=>b.elim .Ab λb=>.ok (.E b) H
def ltA(f:Int->Int->Bool)(a b:V):AM V:=vC AM.Ac a (int:=λx=>vC AM.Ac b (int:=λy=>AM.Ab<|.E<|f x y))
def eO(op:CmpOp)(a b:V):AM V:=λH=>
 CmpOp.casesOn (motive:=λ_=>bJ V) op
  (zB (eqV H a b) H)
  (zB ((eqV H a b).map (!·)) H)
  (ltA (λx y=>decide (x<y)) a b H)
  (ltA (λx y=>decide (x<=y)) a b H)
  (ltA (λx y=>decide (y<x)) a b H)
  (ltA (λx y=>decide (y<=x)) a b H)
  (vC .Ab b (none:=.ok (.E<|dH a) H))
  (vC .Ab b (none:=.ok (.E<|!dH a) H))
  (zB (inA a b H) H)
  (zB ((inA a b H).map (!·)) H)
def amZ(v:V):AM V:=vC AM.Ac v (int:=λx=>AM.Ab<|.A<|-x)
def aZ(r l:List (Str×V)):List (Str×V):=r.foldl (λl p=>bz p.1 p.2 l) l
def we(o:V)(name:Str)(args:List V):AM V:=
 vC AM.Ac o (ref:=λi=>AM.Aa (bX i) (λa=>oC AM.Ac a
  (list:=λl=>sC AM.Ac (λv=>be (name="append"/\l.length<16777216)<|AM.Aa (ml i<|.A<|l++[v]) λ_=>AM.Ab .C) args)
  (dict:=λl _=>sC AM.Ac (λb=>vC AM.Ac b
   (str:=λk=>be (name="get")<|AM.Ab<|(aB k l).getD .C)
   (ref:=λj=>be (name="update")<|AM.Aa (bX j)<|λa=>oC AM.Ac a (dict:=λr _=>be (j≠i/\l.length+r.length<16777216)<|AM.Aa (ml i<|.B (aZ r l) none) λ_=>AM.Ab .C))) args)))
def wg(v:V)(name:Str):AM Unit:=
 vC AM.Ac v (ref:=λi=>AM.Aa (bX i) (λa=>oC AM.Ac a
  (list:=λ_=>be (name="append")<|AM.Ab ())
  (dict:=λ_ _=>be (name="get"∨name="update")<|AM.Ab ())))
def oz(l:List V):Option (List Int):=List.rec (motive:=λ_=>Option<|List Int) (some []) (λv _ a=>vC none v (int:=λx=>a.map (x::·))) l
def rG(l:List V):Option (List UInt8):=List.rec (motive:=λ_=>Option<|List UInt8) (some []) (λv _ a=>vC none v (int:=λx=>if 0<=x/\x<256 then a.map (UInt8.ofNat x.toNat::·) else none)) l
noncomputable def mU:List Str:=(["ether daddr","ether saddr","ether type","vlan pcp","vlan dei","vlan id","vlan type","arp htype","arp ptype","arp hlen","arp plen","arp operation","arp saddr ether","arp saddr ip","arp daddr ether","arp daddr ip","ip version","ip hdrlength","ip dscp","ip ecn","ip length","ip id","ip frag-off","ip ttl","ip protocol","ip checksum","ip saddr","ip daddr","ip6 version","ip6 dscp","ip6 ecn","ip6 flowlabel","ip6 length","ip6 nexthdr","ip6 hoplimit","ip6 saddr","ip6 daddr","tcp sport","tcp dport","tcp sequence","tcp ackseq","tcp doff","tcp reserved","tcp flags","tcp window","tcp checksum","tcp urgptr","udp sport","udp dport","udp length","udp checksum","th sport","th dport","icmp type","icmp code","icmp checksum","icmp id","icmp sequence","icmp gateway","icmp mtu","icmpv6 type","icmpv6 code","icmpv6 checksum","icmpv6 id","icmpv6 sequence","icmpv6 mtu","meta length","meta protocol","meta nfproto","meta l4proto","meta mark","meta priority","meta iif","meta oif","meta iifname","meta oifname","meta iiftype","meta oiftype","meta pkttype","ct state","ct status","ct direction","ct mark","ct zone","ct expiration","ct l3proto","ct protocol","ct original ip saddr","ct original ip daddr","ct original ip6 saddr","ct original ip6 daddr","ct original proto-src","ct original proto-dst","ct reply ip saddr","ct reply ip daddr","ct reply ip6 saddr","ct reply ip6 daddr","ct reply proto-src","ct reply proto-dst"]:List String).map Str.ofString
noncomputable def jJ:List Str:=(["ether daddr","ether saddr","ether type","vlan pcp","vlan dei","vlan id","vlan type","arp htype","arp ptype","arp hlen","arp plen","arp operation","arp saddr ether","arp saddr ip","arp daddr ether","arp daddr ip","ip version","ip hdrlength","ip dscp","ip ecn","ip length","ip id","ip frag-off","ip ttl","ip protocol","ip checksum","ip saddr","ip daddr","ip6 version","ip6 dscp","ip6 ecn","ip6 flowlabel","ip6 length","ip6 nexthdr","ip6 hoplimit","ip6 saddr","ip6 daddr","tcp sport","tcp dport","tcp sequence","tcp ackseq","tcp doff","tcp reserved","tcp flags","tcp window","tcp checksum","tcp urgptr","udp sport","udp dport","udp length","udp checksum","th sport","th dport","icmp type","icmp code","icmp checksum","icmp id","icmp sequence","icmp gateway","icmp mtu","icmpv6 type","icmpv6 code","icmpv6 checksum","icmpv6 id","icmpv6 sequence","icmpv6 mtu","ct direction","ct l3proto","ct protocol","ct zone","ct status","ct mark","ct expiration","ct state","ct original ip saddr","ct original ip daddr","ct original ip6 saddr","ct original ip6 daddr","ct original proto-src","ct original proto-dst","ct reply ip saddr","ct reply ip daddr","ct reply ip6 saddr","ct reply ip6 daddr","ct reply proto-src","ct reply proto-dst","meta length","meta protocol","meta nfproto","meta l4proto","meta mark","meta priority","meta iif","meta oif","meta iifname","meta oifname","meta iiftype","meta oiftype","meta pkttype"]:List String).map Str.ofString
noncomputable def bR:List Str:=(["arp daddr ether","arp daddr ip","arp hlen","arp htype","arp operation","arp plen","arp ptype","arp saddr ether","arp saddr ip","ct direction","ct expiration","ct l3proto","ct mark","ct original ip daddr","ct original ip saddr","ct original ip6 daddr","ct original ip6 saddr","ct original proto-dst","ct original proto-src","ct protocol","ct reply ip daddr","ct reply ip saddr","ct reply ip6 daddr","ct reply ip6 saddr","ct reply proto-dst","ct reply proto-src","ct state","ct status","ct zone","ether daddr","ether saddr","ether type","icmp checksum","icmp code","icmp gateway","icmp id","icmp mtu","icmp sequence","icmp type","icmpv6 checksum","icmpv6 code","icmpv6 id","icmpv6 mtu","icmpv6 sequence","icmpv6 type","ip checksum","ip daddr","ip dscp","ip ecn","ip frag-off","ip hdrlength","ip id","ip length","ip protocol","ip saddr","ip ttl","ip version","ip6 daddr","ip6 dscp","ip6 ecn","ip6 flowlabel","ip6 hoplimit","ip6 length","ip6 nexthdr","ip6 saddr","ip6 version","meta iif","meta iifname","meta iiftype","meta l4proto","meta length","meta mark","meta nfproto","meta oif","meta oifname","meta oiftype","meta pkttype","meta priority","meta protocol","tcp ackseq","tcp checksum","tcp doff","tcp dport","tcp flags","tcp reserved","tcp sequence","tcp sport","tcp urgptr","tcp window","th dport","th sport","udp checksum","udp dport","udp length","udp sport","vlan dei","vlan id","vlan pcp","vlan type"]:List String).map Str.ofString
def ana(args:List V):AM V:=sC AM.Ac (λa=>vC AM.Ac a
 (bytes:=λl=>be (cx l.length)<|AM.Ab<|.A l.length)
 (ref:=λi=>AM.Aa (bX i) (λb=>oC AM.Ac b
  (list:=λl=>be (cx l.length)<|AM.Ab<|.A l.length)
  (barr:=λl=>be (cx l.length)<|AM.Ab<|.A l.length)))) args
def anb(args:List V):AM V:=sC AM.Ac (λa=>vC AM.Ac a (ref:=λi=>AM.Aa (bX i)<|λb=>oC AM.Ac b (list:=λl=>cs (oz l) λns=>AM.Ab<|.A ns.sum))) args
def aaX(args:List V):AM V:=sC AM.Ac (λa=>vC AM.Ac a (int:=λn=>be (-1000<n/\n<1000000)<|AM.Ab<|.I n)) args
def aaY(args:List V):AM V:=sC AM.Ac (λa=>vC AM.Ac a (ref:=λi=>AM.Aa (bX i)<|λb=>oC AM.Ac b (dict:=λl _=>be (l.map (·.1)=mU∨l.map (·.1)=jJ)<|jp<|.A<|bR.map .D))) args
def aeE(args:List V):AM V:=sC AM.Ac (λa=>vC AM.Ac a (ref:=λi=>AM.Aa (bX i) (λc=>oC AM.Ac c
 (list:=λl=>cs (rG l) λb=>be (cx b.length)<|AM.Ab<|.G b)
 (barr:=λl=>be (cx l.length)<|AM.Ab<|.G l)))) args
def ahY(args:List V):AM V:=sC AM.Ac (λa=>vC AM.Ac a (bytes:=λl=>be (cx l.length)<|jp<|.D l)) args
def anc(args:List V):AM V:=lC AM.Ac (λa r=>vC AM.Ac a (int:=λx=>sC AM.Ac (λb=>vC AM.Ac b (int:=λy=>AM.Ab<|.A<|if x<y then y else x)) r)) args
def jb(f:Str)(args:List V):AM V:=
 if f="len" then ana args
 else if f="sum" then anb args
 else if f="range" then aaX args
 else if f="sorted" then aaY args
 else if f="bytes" then aeE args
 else if f="bytearray" then ahY args
 else if f="max" then anc args
 else AM.Ac
abbrev CF:=Nat->List V->AM V
def ahZ(c:CF)(f:V)(m:AM (List V)):AM V:=vC AM.Ac f (glob:=λx=>AM.Aa m<|c x)
mutual
noncomputable def ak(c:CF):X->Lc->AM V
 | .J,_=>AM.Ab .C
 | .S b,_=>AM.Ab<|.E b
 | .B i,_=>AM.Ab<|.A i
 | .C x,_=>AM.Ab<|.D x
 | .V x,_=>AM.Ab<|.G x
 | .A i,l=>cs (l i) AM.Ab
 | .F x,_=>AM.Ab<|.H x
 | .L e a,l=>AM.Aa (ak c e l) λv=>kh v a
 | .H e i,l=>AM.Aa (ak c e l) λv=>AM.Aa (ak c i l) λk=>nZ v k
 | .N e a b,l=>AM.Aa (ak c e l) λv=>AM.Aa (ak c a l) λx=>AM.Aa (ak c b l) λy=>kj v x y
 | .E op a b,l=>AM.Aa (ak c a l) λx=>AM.Aa (ak c b l) λy=>mq op x y
 | .T a,l=>AM.Aa (ak c a l) amZ
 | .U _,_=>AM.Ac
 | .P k es,l=>aia c k es l
 | .I op a b,l=>AM.Aa (ak c a l) λx=>AM.Aa (ak c b l) λy=>eO op x y
 | .O t a b,l=>AM.Aa (bj c t l) λr=>if r then ak c a l else ak c b l
 | .D es,l=>AM.Aa (bK c es l) λvs=>AM.Ab<|.F vs
 | .M es,l=>AM.Aa (bK c es l) λvs=>jp<|.A vs
 | .Q ks es,l=>AM.Aa (jp<|.B []<|some 0) λr=>AM.Aa (bK c es l) λvs=>lC (AM.Ab r) (λ_ _=>vC AM.Ac r (ref:=λi=>AM.Aa (bX i)<|λd=>oC AM.Ac d (dict:=λl _=>lC (AM.Aa (ml i<|.B (aZ (ks.zip vs) []) none) λ_=>AM.Ab r) (λ_ _=>AM.Ac) l))) ks
 | .G f es,l=>AM.Aa (ak c f l) λg=>ahZ c g<|bK c es l
 | .K f es,l=>AM.Aa (bK c es l) λvs=>jb f vs
 | .R o name es,l=>AM.Aa (ak c o l) λv=>AM.Aa (wg v name) λ_=>AM.Aa (bK c es l) λvs=>we v name vs
noncomputable def bj(c:CF):X->Lc->AM Bool
 | .U a,l=>AM.Aa (bj c a l) λb=>AM.Ab<|!b
 | .P k es,l=>ahk c k es l
 | .I op a b,l=>AM.Aa (ak c a l) λx=>AM.Aa (ak c b l) λy=>AM.Aa (eO op x y) di
 | .L e a,l=>AM.Aa (AM.Aa (ak c e l) λv=>kh v a) di
 | .H e i,l=>AM.Aa (AM.Aa (ak c e l) λv=>AM.Aa (ak c i l) λk=>nZ v k) di
 | .A i,l=>cs (l i) di
 | .G f es,l=>AM.Aa (AM.Aa (ak c f l) λg=>ahZ c g<|bK c es l) di
 |_,_=>AM.Ac
noncomputable def ahk(c:CF):Bool->List X->Lc->AM Bool
 |k,[],_=>AM.Ab k
 |k,e::r,l=>AM.Aa (bj c e l) λb=>if b=k then ahk c k r l else AM.Ab b
noncomputable def aia(c:CF):Bool->List X->Lc->AM V
 |_,[],_=>AM.Ac
 |k,e::r,l=>AM.Aa (ak c e l) λv=>lC (AM.Ab v) (λ_ _=>AM.Aa (di v) λb=>if b=k then aia c k r l else AM.Ab v) r
noncomputable def bK(c:CF):List X->Lc->AM (List V)
 |[],_=>AM.Ab []
 |e::r,l=>AM.Aa (ak c e l) λv=>AM.Aa (bK c r l) λvs=>AM.Ab<|v::vs
end
mutual
noncomputable def jc(c:CF):T->V->Lc->AM Lc
 | .A i,v,l=>AM.Ab<|l.Aa i v
 | .C e a,v,l=>AM.Aa (ak c e l) λo=>AM.Aa (ki o a v) λ_=>AM.Ab l
 | .B e i,v,l=>AM.Aa (ak c e l) λo=>AM.Aa (ak c i l) λk=>AM.Aa (fQ o k v) λ_=>AM.Ab l
 | .D b,v,l=>vC AM.Ac v (tup:=λvs=>be (b.length=vs.length)<|oA c b vs l)
noncomputable def oA(c:CF):List T->List V->Lc->AM Lc
 |[],_,l=>AM.Ab l
 |t::a,vs,l=>lC (AM.Ab l) (λv vs=>AM.Aa (jc c t v l) λl'=>oA c a vs l') vs
end
def aoh(a:List Nat)(v:V)(l:Lc):AM Lc:=
 vC AM.Ac v (tup:=λvs=>be (a.length=vs.length)<|AM.Ab<|(a.reverse.zip vs.reverse).foldl (λl p=>l.Aa p.1 p.2) l)
def dO(v:V)(k:Nat):AM (Option V):=
 vC AM.Ac v (tup:=λl=>AM.Ab l[k]?) (bytes:=λl=>AM.Ab<|l[k]?.map λb=>.A b.toNat)
  (rng:=λn=>be (-1000000<n/\n<1000000)<|AM.Ab<|if(k:Int)<n then some (.A k) else none)
def lg(i k:Nat):AM (Option V):=AM.Aa (bX i)<|λa=>oC AM.Ac a (list:=λl=>AM.Ab l[k]?)
def uA(i k:Nat):AM (Option V):=AM.Aa (bX i)<|λa=>oC AM.Ac a (barr:=λl=>AM.Ab<|l[k]?.map λb=>.A b.toNat)
def zC(m:AM a):AM a:=λH=>bJ.casesOn (motive:=λ_=>bJ a) (m H) .ok (λ_ _ _=>.Ab) .Ab
noncomputable def flC(f:Fl)(a brk:b)(ret:V->b):b:=Fl.casesOn (motive:=λ_=>b) f a brk ret
def aoi(c:CF)(t:T)(src:Nat->AM (Option V))(step:Lc->AM (Fl×Lc))(a:Nat->Lc->AM (Fl×Lc))(k:Nat)(l:Lc):AM (Fl×Lc):=
 AM.Aa (src k) λx=>x.elim (AM.Ab (.Aa,l)) λv=>
  AM.Aa (jc c t v l) λl'=>AM.Aa (step l') λr=>flC r.1 (a (k+1) r.2) (AM.Ab (.Aa,r.2)) λv=>AM.Ab (.Ab v,r.2)
def jK(c:CF)(t:T)(src:Nat->AM (Option V))(step:Lc->AM (Fl×Lc))(n:Nat):Nat->Lc->AM (Fl×Lc):=
 Nat.rec (motive:=λ_=>Nat->Lc->AM (Fl×Lc)) (λ_ _=>AM.Ac) (λ_=>aoi c t src step) n
def uB(i:Nat)(l:List (Str×V))(ep:Option Nat)(k:Nat):AM (Option V):=
 AM.Aa (bX i) (λb=>oC AM.Ac b (dict:=λl' a=>be (l'.length=l.length/\a=ep/\ep.isSome=true)<|AM.Ab<|l'[k]?.map λp=>.D p.1))
def lf(v:V)(H:Hp):Nat->AM (Option V):=
 vC (dO v) v (ref:=λi=>H[i]?.elim (λ_=>AM.Ac) (λa=>oC (λ_=>AM.Ac) a (dict:=uB i) (list:=λ_=>lg i) (barr:=λ_=>uA i)))
def aib(a:Lc->AM Bool)(step:Lc->AM (Fl×Lc))(c:Lc->AM (Fl×Lc))(l:Lc):AM (Fl×Lc):=
 AM.Aa (a l) λb=>cond b (AM.Aa (step l) λr=>flC r.1 (c r.2) (AM.Ab (.Aa,r.2)) λv=>AM.Ab (.Ab v,r.2))<|AM.Ab (.Aa,l)
def iq(a:Lc->AM Bool)(step:Lc->AM (Fl×Lc))(n:Nat):Lc->AM (Fl×Lc):=
 Nat.rec (motive:=λ_=>Lc->AM (Fl×Lc)) (λ_=>AM.Ac) (λ_=>aib a step) n
def aic(op:Operator)(x y:V):AM V:=vC AM.Ac x (int:=λ_=>mq op x y)
def aeF(k:Str)(m:AM (Fl×Lc))(f:V->AM (Fl×Lc)):AM (Fl×Lc):=λH=>bJ.casesOn (motive:=λ_=>bJ<|Fl×Lc) (m H) .ok (λa w H'=>if a=k then AM.Aa (jp<|.C k [("why",.D w),("at",.A<|-1)]) f H' else .Ab) .Ab
mutual
noncomputable def aN(c:CF):S->Lc->AM (Fl×Lc)
 | .A t e,l=>AM.Aa (ak c e l) λv=>AM.Aa (jc c t v l) λl'=>AM.Ab (.Aa,l')
 | .G d e,l=>AM.Aa (ak c e l) λv=>AM.Aa (aoh d v l) λl'=>AM.Ab (.Aa,l')
 | .J i op e,l=>cs (l i) λx=>AM.Aa (ak c e l) λy=>AM.Aa (aic op x y) λz=>AM.Ab (.Aa,l.Aa i z)
 | .D e,l=>AM.Aa (ak c e l) λ_=>AM.Ab (.Aa,l)
 | .C t a b,l=>AM.Aa (bj c t l) λr=>if r then au c a l else au c b l
 | .H t b,l=>iq (bj c t) (au c b) 100 l
 | .E t e b,l=>zC<|AM.Aa (ak c e l) λv=>λH=>jK c t (lf v H) (au c b) 1001 0 l H
 | .B e,l=>AM.Aa (ak c e l) λv=>AM.Ab (.Ab v,l)
 | .I,l=>AM.Ab (.Ac,l)
 | .F k e,l=>AM.Aa (ak c e l) λv=>vC AM.Ac v (str:=λx H=>.Ac k x H)
 | .K b k i h,l=>aeF k (au c b l) λe=>AM.Aa (au c h<|Lc.Aa (λ_=>none) i e) λr=>flC r.1 AM.Ac AM.Ac λv=>AM.Ab (.Ab v,λ_=>none)
noncomputable def au(c:CF):List S->Lc->AM (Fl×Lc)
 |[],l=>AM.Ab (.Aa,l)
 |s::r,l=>AM.Aa (aN c s l) λq=>flC q.1 (au c r q.2) (AM.Ab q) λ_=>AM.Ab q
end
structure FD where
 np:Nat
 Ab:List V
 Aa:List S
def oa(fd:FD)(args:List V):Option (List V):=
 if args.length<=fd.np/\fd.np<=args.length+fd.Ab.length then some (args++fd.Ab.drop (fd.Ab.length - (fd.np - args.length))) else none
def zf(c:CF)(fd:FD)(args:List V):AM V:=
 cs (oa fd args) λvs=>AM.Aa (au c fd.Aa λj=>vs[j]?) λr=>flC r.1 (AM.Ab .C) AM.Ac AM.Ab
def alv(l:List Nat):List Nat->Bool:=List.rec (motive:=λ_=>List Nat->Bool) (λr=>r.isEmpty) (λa _ c r=>lC false (λb r=>Nat.beq a b&&c r) r) l
def vG(a b:Str):Bool:=alv a.cps.toList b.cps.toList
theorem acJ{l:List Nat}:∀{r:List Nat},alv l r=true↔l=r:=by
 induction l with
 |nil=>intro r;exact List.isEmpty_iff.trans eq_comm
 |cons a l c=>
  intro r
  cases r with
  |nil=>exact⟨λh=>Bool.noConfusion h,λh=>List.noConfusion rfl<|heq_of_eq h⟩
  |cons b r=>show(Nat.beq a b&&alv l r)=true↔_;rw [ZH,c,List.cons.injEq];exact and_congr_left λ_=>⟨Nat.eq_of_beq_eq_true,λh=>h ▸Nat.beq_refl a⟩
theorem iw:vG a b=true↔a=b:=by
 unfold vG;rw [acJ];obtain⟨⟨l⟩⟩:=a;obtain⟨⟨r⟩⟩:=b;simp
def zS(x:Str)(l:List (Str×NameKind)):Option NameKind:=List.rec (motive:=λ_=>Option NameKind) none (λp _ a=>if vG x p.1 then some p.2 else a) l
theorem kl(x:Str)(l:List (Str×NameKind)):zS x l=l.lookup x:=by
 induction l with
 |nil=>rfl
 |cons p r a=>
  refine af List.lookup_cons<|cI a ?_;show(if vG x p.1 then some p.2 else zS x r)=_
  by_cases h:x=p.1
  ·exact af (Qh<|iw.mpr h)<|cI h<|af BEq.rfl rfl
  ·exact af (Qe<|λq=>h<|iw.mp q)<|af (Zy.mpr h) rfl
noncomputable def acK(k:NameKind):Bool:=NameKind.casesOn (motive:=λ_=>Bool) k true false false false false
noncomputable def aif(k:NameKind):Bool:=NameKind.casesOn (motive:=λ_=>Bool) k false false false false true
def lU(l:List (Str×NameKind)):List Str:=List.rec (motive:=λ_=>List Str) [] (λp _ a=>if acK p.2 then p.1::a else a) l
def iu(x:Str)(l:List Str):Nat->Option Nat:=List.rec (motive:=λ_=>Nat->Option Nat) (λ_=>none) (λy _ a k=>if vG y x then some k else a (k+1)) l
def jr(sc:Scope)(x:Str):Option Nat:=(zS x sc.names).elim none λk=>if acK k then iu x (lU sc.names) 0 else none
def zg(sc:Scope)(x:Str):Bool:=(zS x sc.names).elim false aif
def gX(x:Str)(l:List Str):Bool:=List.rec (motive:=λ_=>Bool) false (λy _ a=>vG x y||a) l
@[elab_as_elim] theorem oE{G:Str->Prop}(h:gX x (y::l)=true)(a:G y)(b:gX x l=true->G x):G x:=
 (Bool.or_eq_true_iff.mp h).elim (λh=>(iw.mp h) ▸a) b
noncomputable def eP:List Str:=(["len","sum","range","sorted","bytes","bytearray","max"]:List String).map Str.ofString
noncomputable def bE:List Str:=(["data","doers","fields","homes","hook","is_reply","kind","l4","link","log","mark","master","meta","now","number","objects","off","ops","order","original","packet","place","readers","replies","reply","sets","sides","since","source","state","status","steps","tags","talk","talks","target","tools","until","why","zone"]:List String).map Str.ofString
noncomputable def eC(d:a)(e:Expr)(bop:BoolOp->List Expr->Pos->a:=λ_ _ _=>d)(bin:Expr->Operator->Expr->Pos->a:=λ_ _ _ _=>d)(un:UnaryOp->Expr->Pos->a:=λ_ _ _=>d)(ife:Expr->Expr->Expr->Pos->a:=λ_ _ _ _=>d)(dict:List (Option Expr)->List Expr->Pos->a:=λ_ _ _=>d)(cmp:Expr->List CmpOp->List Expr->Pos->a:=λ_ _ _ _=>d)(call:Expr->List Expr->List Keyword->Pos->a:=λ_ _ _ _=>d)(con:Const->Nat->Pos->a:=λ_ _ _=>d)(attr:Expr->Str->Pos->a:=λ_ _ _=>d)(sub:Expr->Expr->Pos->a:=λ_ _ _=>d)(name:Str->Pos->a:=λ_ _=>d)(list:List Expr->Pos->a:=λ_ _=>d)(tup:List Expr->Nat->Pos->a:=λ_ _ _=>d)(slice:Option Expr->Option Expr->Option Expr->Pos->a:=λ_ _ _ _=>d):a:=
 Expr.casesOn (motive_1:=λ_=>a) e bop (λ_ _ _=>d) bin un (λ_ _ _ _=>d) ife dict (λ_ _ _=>d) (λ_ _ _ _=>d) (λ_ _ _ _=>d) (λ_ _ _ _ _=>d) (λ_ _ _ _=>d) (λ_ _=>d) (λ_ _=>d) (λ_ _=>d) cmp call (λ_ _ _ _=>d) (λ_ _=>d) con attr sub (λ_ _=>d) name list tup slice
noncomputable def tC(d:g)(s:Stmt)(j:Str->Arguments->List Stmt->Scope->g:=λ_ _ _ _=>d)(k:Str->List Stmt->g:=λ_ _=>d)(ret:Option Expr->g:=λ_=>d)(asg:List Expr->Expr->g:=λ_ _=>d)(aug:Expr->Operator->Expr->g:=λ_ _ _=>d)(for_:Expr->Expr->List Stmt->List Stmt->g:=λ_ _ _ _=>d)(while_:Expr->List Stmt->List Stmt->g:=λ_ _ _=>d)(if_:Expr->List Stmt->List Stmt->g:=λ_ _ _=>d)(raise:Option Expr->Option Expr->g:=λ_ _=>d)(try_:List Stmt->List ExceptHandler->List Stmt->List Stmt->g:=λ_ _ _ _=>d)(expr:Expr->g:=λ_=>d)(brk:g:=d):g:=
 Stmt.casesOn (motive_2:=λ_=>g) s (λn a b _ _ _ sc _ _ _=>j n a b sc) (λ_ _ _ _ _ _ _ _ _ _=>d) (λn _ _ b _ _ _ _ _ _ _=>k n b) (λe _=>ret e) (λ_ _=>d) (λt e _=>asg t e) (λ_ _ _ _ _ _ _=>d) (λt o e _=>aug t o e) (λ_ _ _ _ _=>d) (λt i b o _=>for_ t i b o) (λ_ _ _ _ _=>d) (λt b o _=>while_ t b o) (λt b o _=>if_ t b o) (λ_ _ _=>d) (λ_ _ _=>d) (λ_ _ _=>d) (λe c _=>raise e c) (λb h o f _=>try_ b h o f) (λ_ _ _ _ _=>d) (λ_ _ _=>d) (λ_ _=>d) (λ_ _ _ _=>d) (λ_ _=>d) (λ_ _=>d) (λe _=>expr e) (λ_=>d) (λ_=>brk) (λ_=>d)
def pI(e:Expr):Bool:=eC true e (name:=λ_ _=>false) (attr:=λ_ _ _=>false) (sub:=λ_ _ _=>false)
noncomputable def aeI(sc:Scope):Env:={scope:=sc,locals:=0,globals:=mainGlobals,cells:=[]}
def lR:Option Expr->Option Str:=λo=>o.bind λe=>eC none e (con:=λc _ _=>Const.casesOn (motive:=λ_=>Option Str) c none (λ_=>none) (λ_=>none) (λ_=>none) (λ_ _=>none) some (λ_=>none) none)
noncomputable def om(c:Bool)(o:Option a):Option a:=cond c o none
noncomputable def bn1(o:Option a)(f:a->b):Option b:=o.bind λx=>some<|f x
noncomputable def bn2(o:Option a)(p:Option b)(f:a->b->c):Option c:=o.bind λx=>p.bind λy=>some<|f x y
noncomputable def bn3(o:Option a)(p:Option b)(q:Option c)(f:a->b->c->d):Option d:=o.bind λx=>p.bind λy=>q.bind λz=>some<|f x y z
def sgl(l:List a):Option a:=sC none some l
def wB(e:Expr):Option (Str×Pos):=eC none e (name:=λx p=>some (x,p))
theorem ar{G:Prop}(h:none=some a):G:=by injection h
theorem dP{o:Option a}{G:Prop}(h:om c o=some y)(k:c=true->o=some y->G):G:=by
 cases c with
 |true=>exact k rfl h
 |false=>exact ar h
theorem bo{f:a->Option b}{G:Prop}(h:o.bind f=some y)(k:∀x,o=some x->f x=some y->G):G:=by
 cases o with
 |none=>exact ar h
 |some x=>exact k x rfl h
@[elab_as_elim] theorem bm{f:b->a}{G:a->Prop}(h:o.map f=some y)(k:∀x,o=some x->G (f x)):G y:=by
 cases o with
 |none=>exact ar h
 |some x=>injection h with h;subst h;exact k x rfl
theorem ahl{f:a->Option b}{G:Prop}(h:o.elim none f=some y)(k:∀x,o=some x->f x=some y->G):G:=by
 cases o with
 |none=>exact ar h
 |some x=>exact k x rfl h
theorem uC{d:Decidable c}{G:Prop}(h:(if c then o else none)=some y)(k:c->o=some y->G):G:=by
 cases d with
 |isTrue q=>exact k q h
 |isFalse q=>exact ar h
theorem qy{G:Prop}(h:bJ.Ab=.ok a H):G:=by injection h
theorem mV{d:Decidable c}{m:AM b}{G:Prop}(h:be c m H=.ok a H')(k:c->m H=.ok a H'->G):G:=by
 cases d with
 |isTrue q=>exact k q h
 |isFalse q=>exact qy h
theorem oB{H H':Hp}{G:Prop}(h:AM.Aa (bX i) f H=.ok a H')(k:∀o,H[i]?=some o->f o H=.ok a H'->G):G:=by
 unfold AM.Aa bX at h
 cases q:H[i]? with
 |none=>rw [q] at h;exact qy h
 |some o=>rw [q] at h;exact k o q h
theorem afJ{P:bJ (Fl×Lc)->Prop}{G:Prop}(h:m H=.Ac a x H1)(e:P (aeF k m f H))(n:¬P .Ab)(K:a=k->P (f (.B H1.length)<|H1++[.C k [("why",.D x),("at",.A<|-1)]])->G):G:=by
 unfold aeF at e;rw [h] at e;haveI e:P (if a=k then AM.Aa (jp<|.C k [("why",.D x),("at",.A<|-1)]) f H1 else .Ab):=e
 by_cases q:a=k
 ·rw [Qh q] at e;exact K q e
 ·rw [Qe q] at e;exact absurd e n
theorem wq{G:Prop}(h:AM.Aa m f H=.ok b H')(k:∀a H1,m H=.ok a H1->f a H1=.ok b H'->G):G:=by
 unfold AM.Aa at h
 cases q:m H with
 |ok a H1=>rw [q] at h;exact k a H1 q h
 |_=>rw [q] at h;injection h
theorem aih{f:List V->Option a}{G:Prop}(h:(q.elim none λo=>oC none o f)=some y)(k:∀l,q=some (.A l)->f l=some y->G):G:=by
 cases q with
 |none=>exact ar h
 |some o=>
  cases o with
  |A l=>exact k l rfl h
  |_=>exact ar h
theorem aeJ{f:List (Str×V)->Option Nat->Option a}{G:Prop}(h:(q.elim none λo=>oC none o (dict:=f))=some y)(k:∀l ep,q=some (.B l ep)->f l ep=some y->G):G:=by
 cases q with
 |none=>exact ar h
 |some o=>
  cases o with
  |B l ep=>exact k l ep rfl h
  |_=>exact ar h
theorem wC{l:List (Str×V)}{G:Prop}(h:fN H v=some l)(k:∀i ep,v=.B i->H[i]?=some (.B l ep)->G):G:=by
 cases v with
 |B i=>exact aeJ h λl' ep a e=>k i ep rfl<|Qb e ▸a
 |_=>exact ar h
theorem alS{G:Prop}(h:eqD H a b=some r)(k:eqP H a b=some r->G)
 (f:∀i j l ep l' c,a=.B i->b=.B j->H[i]?=some (.B l ep)->H[j]?=some (.B l' c)->(if l.length=l'.length then rF H l' l else some false)=some r->G):G:=by
 unfold eqD at h
 cases d:fN H a with
 |none=>rw [d] at h;exact k h
 |some l=>
  rw [d] at h
  cases e:fN H b with
  |none=>rw [e] at h;exact k h
  |some l'=>
   rw [e] at h;exact wC d λi ep g m=>wC e λj c n o=>f i j l ep l' c g n m o h
@[elab_as_elim] theorem box{f:a->Option b}{G:Option a->Prop}(h:o.bind f=some y)(k:∀x,f x=some y->G (some x)):G o:=by
 cases o with
 |none=>exact ar h
 |some x=>exact k x h
@[elab_as_elim] theorem mw{G:b->Prop}(h:bn1 o f=some y)(k:∀x,o=some x->G (f x)):G y:=
 bo h λx a h=>by injection h with h;subst h;exact k x a
@[elab_as_elim] theorem rK{y:a}{G:a->Prop}(h:bn2 o p f=some y)(k:∀x z,o=some x->p=some z->G (f x z)):G y:=
 bo h λx b h=>mw h λz hz=>k x z b hz
@[elab_as_elim] theorem ahn{f:d->e->g->a}{y:a}{G:a->Prop}(h:bn3 o p q f=some y)(k:∀x z u,o=some x->p=some z->q=some u->G (f x z u)):G y:=
 bo h λx b h=>rK h λz u hz c=>k x z u b hz c
@[elab_as_elim] theorem rL{f:a->Option b}{G:List a->Prop}(h:(sgl l).bind f=some y)(k:∀x,f x=some y->G [x]):G l:=by
 cases l with
 |nil=>exact ar h
 |cons x r=>
  cases r with
  |nil=>exact k x h
  |cons _ _=>exact ar h
@[elab_as_elim] theorem uH{o:Option a}{G:List b->Prop}(h:om l.isEmpty o=some y)(k:o=some y->G []):G l:=by
 cases l with
 |nil=>exact k h
 |cons _ _=>exact ar h
@[elab_as_elim] theorem rM{f:Str×Pos->Option a}{G:Expr->Prop}(h:(wB e).bind f=some y)(k:∀x p,f (x,p)=some y->G (.Name x p)):G e:=by
 cases e with
 |Name x p=>exact k x p h
 |_=>exact ar h
noncomputable def abc(c:Const):Option X:=Const.casesOn (motive:=λ_=>Option X) c (some .J) (λb=>some<|.S b) (λi=>some<|.B i) (λ_=>none) (λ_ _=>none) (λx=>some<|.C x) (λb=>some<|.V b) none
def afB(sc:Scope)(a:List Str)(x:Str):Option X:=om (!vG x "__debug__")<|(jr sc x).elim (om (zg sc x)<|bn1 (iu x a 0) .F) λi=>some<|.A i
def vJ(e:Expr):Option (Option Expr×Option Expr):=eC none e (slice:=λa b st _=>st.elim (some (a,b)) λ_=>none)
def alt(F:Expr->Option X)(a:Option Expr->Option X)(o i:Expr):Option X:=(vJ i).elim (bn2 (F o) (F i) .H) λq=>bn3 (F o) (a q.1) (a q.2) .N
@[elab_as_elim] theorem zO{G:Expr->Prop}(h:vJ i=some q)(k:∀p,G<|.Slice q.1 q.2 none p):G i:=by
 cases i with
 |Slice a b st p=>
  cases st with
  |none=>haveI h:=Qb h;subst h;exact k p
  |some _=>exact ar h
 |_=>exact ar h
def cUn(op:UnaryOp)(a:Option X):Option X:=UnaryOp.casesOn (motive:=λ_=>Option X) op none (bn1 a .U) none<|bn1 a .T
def alT(F:Expr->Option X)(a:List Expr->Option (List X))(sc:Scope)(c:List Str)(f:Expr)(args:List Expr)(b:List Keyword)(pos:Pos):Option X:=eC none f
 (attr:=λo name ap=>om b.isEmpty<|om (!pI o)<|om (!decide (args.length>=10))<|om (Nat.beq ap.endLine pos.line)<|bn2 (F o) (a args) λx l=>.R x name l)
 (name:=λg p=>om b.isEmpty<|om (!decide (args.length>=10))<|(F<|.Name g p).elim (om (zg sc g)<|om (gX g eP)<|om (!gX g c)<|bn1 (a args)<|.K g) λx=>bn1 (a args)<|.G x)
noncomputable def cO(F:Expr->Option X)(e:Option Expr):Option X:=e.elim (some .J) F
def cL(F:b->Option a)(l:List b):Option (List a):=List.rec (motive:=λ_=>Option<|List a) (some []) (λe _ c=>bn2 (F e) c .cons) l
def cE1(sc:Scope)(g:List Str)(F:Expr->Option X)(e:Expr):Option X:=eC none e
 (con:=λc _ _=>abc c)
 (name:=λx _=>afB sc g x)
 (attr:=λo a _=>om (!pI o)<|om (gX a bE)<|bn1 (F o)<|λo=>.L o a)
 (sub:=λo i _=>alt F (cO F) o i)
 (bin:=λa op b _=>bn2 (F a) (F b)<|.E op)
 (un:=λop a _=>cUn op<|F a)
 (bop:=λop es _=>bn1 (cL F es)<|.P<|op ==.And)
 (cmp:=λa d h _=>(sgl d).bind λop=>(sgl h).bind λb=>bn2 (F a) (F b)<|.I op)
 (ife:=λt a b _=>bn3 (F t) (F a) (F b) .O)
 (tup:=λes _ _=>om (decide (es.length<=1000))<|bn1 (cL F es) .D)
 (list:=λes _=>om (decide (es.length<=1000))<|bn1 (cL F es) .M)
 (dict:=λks vs _=>om (decide (ks.length=vs.length))<|om (decide (ks.length<=15))<|bn2 (ks.mapM lR) (cL F vs) .Q)
 (call:=λf args j pos=>alT F (cL F) sc g f args j pos)
def cE(n:Nat)(sc:Scope)(a:List Str):Expr->Option X:=Nat.rec (motive:=λ_=>Expr->Option X) (λ_=>none) (λ_=>cE1 sc a) n
def cT1(sc:Scope)(b:List Str)(n:Nat)(F:Expr->Option T)(e:Expr):Option T:=eC none e
 (name:=λx _=>bn1 (jr sc x) .A)
 (attr:=λo a _=>om (gX a bE)<|bn1 (cE n sc b o)<|λo=>.C o a)
 (sub:=λo i _=>bn2 (cE n sc b o) (cE n sc b i) .B)
 (tup:=λc _ _=>bn1 (cL F c) .D)
def cT(n:Nat)(sc:Scope)(a:List Str):Expr->Option T:=Nat.rec (motive:=λ_=>Expr->Option T) (λ_=>none) (cT1 sc a) n
def alw(e:Expr):Bool:=eC false e (name:=λ_ _=>true)
def alx(e:Expr):Bool:=eC false e (attr:=λo _ _=>alw o)
def aho(e:Expr):Bool:=eC false e (con:=λ_ _ _=>true)
def vK(e:Expr):Bool:=eC false e (attr:=λo _ _=>alw o) (cmp:=λa _ b _=>alx a&&b.all aho)
def aok(F:Expr->Option X)(b:Expr->Option T)(sc:Scope)(c:List Expr)(e:Expr):Option S:=
 (sgl c).bind λt=>(F e).bind λx=>(pureOf<|swappedStores [t] e<|aeI sc).bind λr=>r.elim (bn1 (b t)<|λo=>.A o x) λa=>bn1 (a.mapM<|jr sc)<|λo=>.G o x
def alU(op:Operator):Bool:=opC false op (add:=true)
def aeK(e:Expr):Option (Expr×List Expr×List Keyword):=eC none e (call:=λf args a _=>some (f,args,a))
def aeL(F:Expr->Option X)(sc:Scope)(ex:List Str)(x c:Option Expr):Option S:=c.elim (x.bind λe=>(aeK e).bind λq=>(wB q.1).bind λk=>(sgl q.2.1).bind λe=>om q.2.2.isEmpty<|om (zg sc k.1)<|om (gX k.1 ex)<|bn1 (F e)<|.F k.1) λ_=>none
def alV(st:Stmt):Option (Option Expr):=tC none st (ret:=some)
def anf(F:Expr->Option X)(a:List Stmt->Option (List S))(sc:Scope)(ex:List Str)(b:List Stmt)(h:ExceptHandler):Option S:=ExceptHandler.casesOn (motive_4:=λ_=>Option S) h λt c d _=>t.bind λt=>(wB t).bind λk=>c.bind λv=>(sgl d).bind λst=>(alV st).bind λe=>e.bind λe=>
 om (zg sc k.1) (om (gX k.1 ex)<|om (vK e)<|bn3 (a b) (jr sc v) (F e) λx i y=>.K x k.1 i [.B y])
def cS1(sc:Scope)(d ex:List Str)(n:Nat)(F:Stmt->Option S)(st:Stmt):Option S:=tC none st
 (asg:=λg e=>aok (cE n sc d) (cT n sc d) sc g e)
 (aug:=λt op e=>(wB t).bind λx=>om (alU op)<|bn2 (jr sc x.1) (cE n sc d e) λi y=>.J i .Add y)
 (expr:=λe=>bn1 (cE n sc d e) .D)
 (if_:=λt a b=>bn3 (cE n sc d t) (cL F a) (cL F b) .C)
 (while_:=λt b o=>om o.isEmpty<|bn2 (cE n sc d t) (cL F b) .H)
 (for_:=λt j b o=>om o.isEmpty<|bn3 (cT n sc d t) (cE n sc d j) (cL F b) .E)
 (ret:=λe=>e.elim (some<|.B .J) λe=>bn1 (cE n sc d e) .B)
 (brk:=some .I)
 (raise:=λx c=>aeL (cE n sc d) sc ex x c)
 (try_:=λb hs o f=>(sgl hs).bind λh=>om o.isEmpty<|om f.isEmpty<|anf (cE n sc d) (cL F) sc ex b h)
def cS(n:Nat)(sc:Scope)(a ex:List Str):Stmt->Option S:=Nat.rec (motive:=λ_=>Stmt->Option S) (λ_=>none) (cS1 sc a ex) n
structure Def where
 Aa:Arguments
 Ac:List Stmt
 Ab:Scope
noncomputable def bF:List Str:=(["Misused","BadPacket"]:List String).map Str.ofString
noncomputable def wD:List Str:=(["Ether","Packet","Scene","Talk"]:List String).map Str.ofString
noncomputable def wE:List Str:=(["payload_group","link_fields","ip_fields","ip6_fields","tcp_fields","udp_fields","th_fields","icmp_fields","meta_fields","ct_fields","all_fields","needs_of","field_named","is_worked","field_under","size_of","number_of","bits_of","look4","head_size","size_at","place_at","look6","read_ether","new_meta","look","packet_of","frame_packet","family_of","base_of","field_bits","needs_met","read_by","value_of","meta_value","side_value","ct_value","read_payload","read_meta","read_ct","core_readers","_law_next","_law_octets","_law_heads","_law_whole","_law_four","_law_seen4","_law_head","_law_six","_law_packet","_law_frame","_law_payload","_law_side","_law_talk","_law_meta","_law_refusal","_law_is_short","_law_marks","_law_talk_of","_law_is_as_told","law"]:List String).map Str.ofString
def aA:List Str:=wE++wD++[Str.ofString "masked"]
noncomputable def anh(x:X):Option V:=X.casesOn (motive_1:=λ_=>Option V) x none (λ_=>none) (λi=>some<|.A i) (λx=>some<|.D x) (λb=>some<|.G b) (λ_=>none) (λ_=>none) (λ_ _=>none) (λ_ _=>none) (λ_ _ _=>none) (λ_ _ _=>none) (λ_=>none) (λ_=>none) (λ_ _=>none) (λ_ _ _=>none) (λ_ _ _=>none) (λ_=>none) (λ_=>none) (λ_ _=>none) (λ_ _=>none) (λ_ _=>none)<|λ_ _ _=>none
def afK(d:Def):Option FD:=
 om ((d.Aa.args.map (·.arg))==(lU d.Ab.names).take d.Aa.args.length)
  ((cL (cE 50 d.Ab aA) d.Aa.defaults).bind λds=>(cL (cS 200 d.Ab aA bF) d.Ac).bind λb=>(ds.mapM anh).bind λvs=>some ⟨d.Aa.args.length,vs,b⟩)
noncomputable def eQ:FD:=⟨3,[],[.A (.A 3)<|.Q [] [],.E (.D [.A 4,.A 5,.A 6,.A 7]) (.A 2) [.A (.B (.A 3)<|.E .Add (.E .Add (.A 0)<|.C " ")<|.A 4)<|.D [.C "payload",.A 7,.A 6,.C "big",.D [.A 0,.A 1,.A 5]]],.B<|.A 3]⟩
noncomputable def fS:FD:=⟨0,[],[.A (.A 0)<|.G (.F 0) [.C "ether",.C "link",.D [.D [.C "daddr",.B 0,.B 48,.C "ether_addr"],.D [.C "saddr",.B 48,.B 48,.C "ether_addr"],.D [.C "type",.B 96,.B 16,.C "ether_type"]]],.D<|.R (.A 0) "update" [.G (.F 0) [.C "vlan",.C "link",.D [.D [.C "pcp",.B 112,.B 3,.C "integer"],.D [.C "dei",.B 115,.B 1,.C "integer"],.D [.C "id",.B 116,.B 12,.C "integer"],.D [.C "type",.B 128,.B 16,.C "ether_type"]]]],.D<|.R (.A 0) "update" [.G (.F 0) [.C "arp",.C "network",.D [.D [.C "htype",.B 0,.B 16,.C "integer"],.D [.C "ptype",.B 16,.B 16,.C "ether_type"],.D [.C "hlen",.B 32,.B 8,.C "integer"],.D [.C "plen",.B 40,.B 8,.C "integer"],.D [.C "operation",.B 48,.B 16,.C "arp_op"],.D [.C "saddr ether",.B 64,.B 48,.C "ether_addr"],.D [.C "saddr ip",.B 112,.B 32,.C "ipv4_addr"],.D [.C "daddr ether",.B 144,.B 48,.C "ether_addr"],.D [.C "daddr ip",.B 192,.B 32,.C "ipv4_addr"]]]],.B<|.A 0]⟩
noncomputable def iz:FD:=⟨0,[],[.B<|.G (.F 0) [.C "ip",.C "network",.D [.D [.C "version",.B 0,.B 4,.C "integer"],.D [.C "hdrlength",.B 4,.B 4,.C "integer"],.D [.C "dscp",.B 8,.B 6,.C "dscp"],.D [.C "ecn",.B 14,.B 2,.C "ecn"],.D [.C "length",.B 16,.B 16,.C "integer"],.D [.C "id",.B 32,.B 16,.C "integer"],.D [.C "frag-off",.B 48,.B 16,.C "integer"],.D [.C "ttl",.B 64,.B 8,.C "integer"],.D [.C "protocol",.B 72,.B 8,.C "inet_proto"],.D [.C "checksum",.B 80,.B 16,.C "integer"],.D [.C "saddr",.B 96,.B 32,.C "ipv4_addr"],.D [.C "daddr",.B 128,.B 32,.C "ipv4_addr"]]]]⟩
noncomputable def gL:FD:=⟨0,[],[.B<|.G (.F 0) [.C "ip6",.C "network",.D [.D [.C "version",.B 0,.B 4,.C "integer"],.D [.C "dscp",.B 4,.B 6,.C "dscp"],.D [.C "ecn",.B 10,.B 2,.C "ecn"],.D [.C "flowlabel",.B 12,.B 20,.C "integer"],.D [.C "length",.B 32,.B 16,.C "integer"],.D [.C "nexthdr",.B 48,.B 8,.C "inet_proto"],.D [.C "hoplimit",.B 56,.B 8,.C "integer"],.D [.C "saddr",.B 64,.B 128,.C "ipv6_addr"],.D [.C "daddr",.B 192,.B 128,.C "ipv6_addr"]]]]⟩
noncomputable def gM:FD:=⟨0,[],[.B<|.G (.F 0) [.C "tcp",.C "transport",.D [.D [.C "sport",.B 0,.B 16,.C "inet_service"],.D [.C "dport",.B 16,.B 16,.C "inet_service"],.D [.C "sequence",.B 32,.B 32,.C "integer"],.D [.C "ackseq",.B 64,.B 32,.C "integer"],.D [.C "doff",.B 96,.B 4,.C "integer"],.D [.C "reserved",.B 100,.B 4,.C "integer"],.D [.C "flags",.B 104,.B 8,.C "tcp_flag"],.D [.C "window",.B 112,.B 16,.C "integer"],.D [.C "checksum",.B 128,.B 16,.C "integer"],.D [.C "urgptr",.B 144,.B 16,.C "integer"]]]]⟩
noncomputable def gN:FD:=⟨0,[],[.B<|.G (.F 0) [.C "udp",.C "transport",.D [.D [.C "sport",.B 0,.B 16,.C "inet_service"],.D [.C "dport",.B 16,.B 16,.C "inet_service"],.D [.C "length",.B 32,.B 16,.C "integer"],.D [.C "checksum",.B 48,.B 16,.C "integer"]]]]⟩
noncomputable def iA:FD:=⟨0,[],[.B<|.G (.F 0) [.C "th",.C "transport",.D [.D [.C "sport",.B 0,.B 16,.C "inet_service"],.D [.C "dport",.B 16,.B 16,.C "inet_service"]]]]⟩
noncomputable def fT:FD:=⟨0,[],[.A (.A 0)<|.G (.F 0) [.C "icmp",.C "transport",.D [.D [.C "type",.B 0,.B 8,.C "icmp_type"],.D [.C "code",.B 8,.B 8,.C "icmp_code"],.D [.C "checksum",.B 16,.B 16,.C "integer"],.D [.C "id",.B 32,.B 16,.C "integer"],.D [.C "sequence",.B 48,.B 16,.C "integer"],.D [.C "gateway",.B 32,.B 32,.C "ipv4_addr"],.D [.C "mtu",.B 48,.B 16,.C "integer"]]],.D<|.R (.A 0) "update" [.G (.F 0) [.C "icmpv6",.C "transport",.D [.D [.C "type",.B 0,.B 8,.C "icmpv6_type"],.D [.C "code",.B 8,.B 8,.C "icmpv6_code"],.D [.C "checksum",.B 16,.B 16,.C "integer"],.D [.C "id",.B 32,.B 16,.C "integer"],.D [.C "sequence",.B 48,.B 16,.C "integer"],.D [.C "mtu",.B 32,.B 32,.C "integer"]]]],.B<|.A 0]⟩
noncomputable def fU:FD:=⟨0,[],[.A (.A 0)<|.D [.D [.C "length",.B 32,.C "host",.C "integer"],.D [.C "protocol",.B 16,.C "big",.C "ether_type"],.D [.C "nfproto",.B 8,.C "big",.C "nf_proto"],.D [.C "l4proto",.B 8,.C "big",.C "inet_proto"],.D [.C "mark",.B 32,.C "host",.C "mark"],.D [.C "priority",.B 32,.C "host",.C "integer"],.D [.C "iif",.B 32,.C "host",.C "iface_index"],.D [.C "oif",.B 32,.C "host",.C "iface_index"],.D [.C "iifname",.B 128,.C "big",.C "ifname"],.D [.C "oifname",.B 128,.C "big",.C "ifname"],.D [.C "iiftype",.B 16,.C "host",.C "integer"],.D [.C "oiftype",.B 16,.C "host",.C "integer"],.D [.C "pkttype",.B 8,.C "big",.C "pkt_type"]],.A (.A 1)<|.Q [] [],.E (.D [.A 2,.A 3,.A 4,.A 5]) (.A 0) [.A (.B (.A 1)<|.E .Add (.C "meta ")<|.A 2)<|.D [.C "meta",.A 5,.A 3,.A 4,.A 2]],.B<|.A 1]⟩
noncomputable def iB:FD:=⟨0,[],[.A (.A 0)<|.D [.D [.C "state",.B 32,.C "host",.C "ct_state"],.D [.C "status",.B 32,.C "host",.C "ct_status"],.D [.C "direction",.B 8,.C "big",.C "ct_dir"],.D [.C "mark",.B 32,.C "host",.C "mark"],.D [.C "zone",.B 16,.C "host",.C "integer"],.D [.C "expiration",.B 32,.C "host",.C "time"],.D [.C "l3proto",.B 8,.C "big",.C "nf_proto"],.D [.C "protocol",.B 8,.C "big",.C "inet_proto"]],.A (.A 1)<|.D [.D [.C "ip saddr",.C "saddr4",.B 32,.C "ipv4_addr"],.D [.C "ip daddr",.C "daddr4",.B 32,.C "ipv4_addr"],.D [.C "ip6 saddr",.C "saddr6",.B 128,.C "ipv6_addr"],.D [.C "ip6 daddr",.C "daddr6",.B 128,.C "ipv6_addr"],.D [.C "proto-src",.C "proto-src",.B 16,.C "inet_service"],.D [.C "proto-dst",.C "proto-dst",.B 16,.C "inet_service"]],.A (.A 2)<|.Q [] [],.E (.D [.A 3,.A 4,.A 5,.A 6]) (.A 0) [.A (.B (.A 2)<|.E .Add (.C "ct ")<|.A 3)<|.D [.C "ct",.A 6,.A 4,.A 5,.D [.A 3,.C ""]]],.E (.A 7) (.D [.C "original",.C "reply"]) [.E (.D [.A 8,.A 3,.A 4,.A 6]) (.A 1) [.A (.B (.A 2)<|.E .Add (.E .Add (.E .Add (.C "ct ")<|.A 7)<|.C " ")<|.A 8)<|.D [.C "ct",.A 6,.A 4,.C "big",.D [.A 3,.A 7]]]],.B<|.A 2]⟩
noncomputable def gO:FD:=⟨0,[],[.A (.A 0)<|.G (.F 1) [],.D<|.R (.A 0) "update" [.G (.F 2) []],.D<|.R (.A 0) "update" [.G (.F 3) []],.D<|.R (.A 0) "update" [.G (.F 4) []],.D<|.R (.A 0) "update" [.G (.F 5) []],.D<|.R (.A 0) "update" [.G (.F 6) []],.D<|.R (.A 0) "update" [.G (.F 7) []],.D<|.R (.A 0) "update" [.G (.F 8) []],.D<|.R (.A 0) "update" [.G (.F 9) []],.B<|.A 0]⟩
noncomputable def ju:FD:=⟨1,[],[.A (.A 1)<|.Q ["ether","th","vlan","arp","ip","ip6","tcp","udp","icmp","icmpv6"] [.D [],.D [],.D [.D [.C "ether type",.B 33024]],.D [.D [.C "meta protocol",.B 2054]],.D [.D [.C "meta nfproto",.B 2]],.D [.D [.C "meta nfproto",.B 10]],.D [.D [.C "meta l4proto",.B 6]],.D [.D [.C "meta l4proto",.B 17]],.D [.D [.C "meta nfproto",.B 2],.D [.C "meta l4proto",.B 1]],.D [.D [.C "meta nfproto",.B 10],.D [.C "meta l4proto",.B 58]]],.C (.I .NotIn (.A 0)<|.A 1) [.F "Misused"<|.E .Add (.E .Add (.C "unknown protocol '")<|.A 0)<|.C "'"] [],.B<|.H (.A 1)<|.A 0]⟩
noncomputable def fV:FD:=⟨2,[],[.C (.I .NotIn (.A 1)<|.A 0) [.F "Misused"<|.E .Add (.E .Add (.C "unknown field '")<|.A 1)<|.C "'"] [],.B<|.H (.A 0)<|.A 1]⟩
noncomputable def iC:FD:=⟨1,[],[.B<|.I .In (.H (.A 0)<|.B 0)<|.D [.C "mask",.C "or",.C "xor",.C "shl",.C "shr"]]⟩
noncomputable def fW:FD:=⟨3,[],[.H (.G (.F 13) [.A 1]) [.A (.A 1)<|.H (.A 1)<|.B 1],.C (.I .Eq (.H (.A 1)<|.B 0)<|.C "hash") [.B .J] [],.C (.I .NotEq (.H (.A 1)<|.B 0)<|.C "field") [.F "Misused"<|.E .Add (.E .Add (.E .Add (.C "no ")<|.A 2)<|.C " of its own: ")<|.H (.A 1)<|.B 0] [],.B<|.G (.F 12) [.A 0,.H (.A 1)<|.B 1]]⟩
noncomputable def kr:FD:=⟨2,[],[.A (.A 2)<|.G (.F 14) [.A 0,.A 1,.C "size"],.C (.I .Is (.A 2) .J) [.B<|.B 4] [],.A (.A 3)<|.O (.I .Eq (.H (.A 2)<|.B 0)<|.C "payload") (.E .Mod (.H (.H (.A 2)<|.B 4)<|.B 2)<|.B 8)<|.B 0,.B<|.E .FloorDiv (.E .Add (.E .Add (.A 3)<|.H (.A 2)<|.B 2)<|.B 7)<|.B 8]⟩
noncomputable def nv:FD:=⟨1,[],[.A (.A 1)<|.B 0,.E (.A 2) (.A 0) [.A (.A 1)<|.E .BitOr (.E .LShift (.A 1)<|.B 8)<|.A 2],.B<|.A 1]⟩
noncomputable def gZ:FD:=⟨3,[],[.A (.A 3)<|.E .FloorDiv (.A 1)<|.B 8,.A (.A 4)<|.E .FloorDiv (.E .Add (.E .Add (.A 1)<|.A 2)<|.B 7)<|.B 8,.C (.I .Gt (.A 4)<|.K "len" [.A 0]) [.B .J] [],.A (.A 5)<|.E .Sub (.E .Sub (.E .Mult (.B 8)<|.A 4)<|.A 1)<|.A 2,.B<|.E .BitAnd (.E .RShift (.G (.F 16) [.N (.A 0) (.A 3)<|.A 4])<|.A 5)<|.E .Sub (.E .LShift (.B 1)<|.A 2)<|.B 1]⟩
noncomputable def eR:FD:=⟨1,[],[.C (.P false [.I .Lt (.K "len" [.A 0])<|.B 20,.I .NotEq (.E .RShift (.H (.A 0)<|.B 0)<|.B 4)<|.B 4]) [.B .J] [],.A (.A 1)<|.E .Mult (.E .BitAnd (.H (.A 0)<|.B 0)<|.B 15)<|.B 4,.C (.P false [.I .Lt (.A 1)<|.B 20,.I .Gt (.A 1)<|.K "len" [.A 0]]) [.B .J] [],.A (.A 2)<|.G (.F 16) [.N (.A 0) (.B 6)<|.B 8],.B<|.D [.H (.A 0)<|.B 9,.A 1,.E .Mult (.E .BitAnd (.A 2)<|.B 8191)<|.B 8,.I .NotEq (.E .BitAnd (.A 2)<|.B 8192)<|.B 0]]⟩
noncomputable def cD:FD:=⟨2,[],[.C (.I .In (.A 0)<|.D [.B 0,.B 43,.B 60]) [.B<|.E .Mult (.E .Add (.A 1)<|.B 1)<|.B 8] [],.C (.I .Eq (.A 0)<|.B 51) [.B<|.E .Mult (.E .Add (.A 1)<|.B 2)<|.B 4] [],.C (.I .Eq (.A 0)<|.B 44) [.B<|.B 8] [],.B<|.B 0]⟩
noncomputable def dA:FD:=⟨4,[],[.C (.I .Eq (.G (.F 19) [.A 2,.B 0])<|.B 0) [.B<|.B 0] [],.C (.I .Gt (.E .Add (.A 1)<|.B 2)<|.A 3) [.B<|.T<|.B 1] [],.A (.A 4)<|.G (.F 19) [.A 2,.H (.A 0)<|.E .Add (.A 1)<|.B 1],.C (.I .Gt (.E .Add (.A 1)<|.A 4)<|.A 3) [.B<|.T<|.B 1] [],.B<|.A 4]⟩
noncomputable def jv:FD:=⟨2,[],[.B<|.E .BitAnd (.G (.F 16) [.N (.A 0) (.E .Add (.A 1)<|.B 2)<|.E .Add (.A 1)<|.B 4])<|.B 65528]⟩
noncomputable def fX:FD:=⟨1,[],[.C (.P false [.I .Lt (.K "len" [.A 0])<|.B 40,.I .NotEq (.E .RShift (.H (.A 0)<|.B 0)<|.B 4)<|.B 6]) [.B .J] [],.A (.A 1)<|.H (.A 0)<|.B 6,.A (.A 2)<|.B 40,.A (.A 3)<|.B 0,.A (.A 4)<|.S false,.H (.I .Eq (.A 3)<|.B 0) [.A (.A 5)<|.G (.F 20) [.A 0,.A 2,.A 1,.K "len" [.A 0]],.C (.P false [.I .Lt (.A 5)<|.B 0,.P true [.I .Eq (.A 1)<|.B 0,.I .Gt (.A 2)<|.B 40]]) [.B .J] [],.C (.I .Eq (.A 5)<|.B 0) [.I] [],.C (.I .Eq (.A 1)<|.B 44) [.A (.A 3)<|.G (.F 21) [.A 0,.A 2],.A (.A 4)<|.I .Eq (.E .BitAnd (.H (.A 0)<|.E .Add (.A 2)<|.B 3)<|.B 1)<|.B 1] [],.A (.A 1)<|.H (.A 0)<|.A 2,.J 2 .Add<|.A 5],.B<|.D [.A 1,.A 2,.A 3,.A 4]]⟩
noncomputable def cR:FD:=⟨1,[],[.C (.I .Lt (.K "len" [.A 0])<|.B 14) [.F "BadPacket"<|.C "frame too short"] [],.A (.A 1)<|.M [],.A (.A 2)<|.G (.F 16) [.N (.A 0) (.B 12)<|.B 14],.A (.A 3)<|.B 14,.H (.I .In (.A 2)<|.D [.B 33024,.B 34984]) [.C (.I .Lt (.K "len" [.A 0])<|.E .Add (.A 3)<|.B 4) [.F "BadPacket"<|.C "frame too short"] [],.A (.A 4)<|.G (.F 16) [.N (.A 0) (.A 3)<|.E .Add (.A 3)<|.B 2],.D<|.R (.A 1) "append" [.D [.A 2,.E .RShift (.A 4)<|.B 13,.E .BitAnd (.E .RShift (.A 4)<|.B 12)<|.B 1,.E .BitAnd (.A 4)<|.B 4095]],.A (.A 2)<|.G (.F 16) [.N (.A 0) (.E .Add (.A 3)<|.B 2)<|.E .Add (.A 3)<|.B 4],.A (.A 3)<|.E .Add (.A 3)<|.B 4],.B<|.D [.G (.F 61) [.G (.F 16) [.N (.A 0) (.B 0)<|.B 6],.G (.F 16) [.N (.A 0) (.B 6)<|.B 12],.A 1,.A 2],.A 3]]⟩
noncomputable def jw:FD:=⟨0,[],[.A (.A 0)<|.Q [] [],.E (.A 1) (.D [.C "mark",.C "priority",.C "iif",.C "oif",.C "iifname",.C "oifname",.C "pkttype"]) [.A (.B (.A 0)<|.A 1)<|.B 0],.A (.B (.A 0)<|.C "iiftype")<|.B 1,.A (.B (.A 0)<|.C "oiftype")<|.B 1,.B<|.A 0]⟩
noncomputable def gy:FD:=⟨1,[],[.A (.C (.A 0) "l4")<|.T<|.B 1,.A (.C (.A 0) "off")<|.T<|.B 1,.A (.C (.A 0) "place")<|.B 0,.A (.A 1) .J,.C (.I .Eq (.L (.A 0) "kind")<|.B 2048) [.A (.A 1)<|.G (.F 18) [.L (.A 0) "data"]] [.C (.I .Eq (.L (.A 0) "kind")<|.B 34525) [.A (.A 1)<|.G (.F 22) [.L (.A 0) "data"]] []],.C (.I .Is (.A 1) .J) [.B .J] [],.A (.C (.A 0) "l4")<|.H (.A 1)<|.B 0,.A (.C (.A 0) "place")<|.H (.A 1)<|.B 2,.C (.P true [.I .Eq (.H (.A 1)<|.B 2)<|.B 0,.I .LtE (.H (.A 1)<|.B 1)<|.K "len" [.L (.A 0) "data"]]) [.A (.C (.A 0) "off")<|.H (.A 1)<|.B 1] []]⟩
noncomputable def fu:FD:=⟨3,[.A 2048,.G []],[.A (.A 3)<|.G (.F 62) [.A 0,.A 1,.A 2],.D<|.G (.F 25) [.A 3],.B<|.A 3]⟩
noncomputable def de:FD:=⟨1,[],[.A (.D [.A 1,.A 2])<|.G (.F 23) [.A 0],.B<|.G (.F 26) [.N (.A 0) (.A 2) .J,.L (.A 1) "kind",.N (.A 0) .J<|.A 2]]⟩
noncomputable def iD:FD:=⟨1,[],[.C (.I .Eq (.L (.A 0) "kind")<|.B 2048) [.B<|.B 2] [],.C (.I .Eq (.L (.A 0) "kind")<|.B 34525) [.B<|.B 10] [],.C (.I .Eq (.L (.A 0) "kind")<|.B 2054) [.B<|.B 3] [],.B<|.B 0]⟩
noncomputable def kt:FD:=⟨2,[],[.C (.I .Eq (.A 1)<|.C "network") [.B<|.D [.L (.A 0) "data",.B 0]] [],.C (.I .Eq (.A 1)<|.C "transport") [.C (.I .Lt (.L (.A 0) "off")<|.B 0) [.B .J] [],.B<|.D [.L (.A 0) "data",.L (.A 0) "off"]] [],.C (.I .NotEq (.A 1)<|.C "link") [.F "Misused"<|.C "no such base"] [],.C (.I .Eq (.K "len" [.L (.A 0) "link"])<|.B 0) [.B .J] [],.B<|.D [.L (.A 0) "link",.B 0]]⟩
noncomputable def ez:FD:=⟨4,[],[.A (.A 4)<|.G (.F 29) [.A 0,.A 1],.C (.P false [.I .Is (.A 4) .J,.I .Lt (.A 2)<|.B 0]) [.B .J] [],.B<|.G (.F 17) [.H (.A 4)<|.B 0,.E .Add (.E .Mult (.H (.A 4)<|.B 1)<|.B 8)<|.A 2,.A 3]]⟩
noncomputable def fv:FD:=⟨2,[],[.E (.A 2) (.G (.F 11) [.A 1]) [.C (.I .NotEq (.G (.F 33) [.A 0,.D [.C "field",.H (.A 2)<|.B 0]])<|.H (.A 2)<|.B 1) [.B<|.S false] []],.B<|.S true]⟩
noncomputable def hJ:FD:=⟨3,[],[.A (.A 3)<|.R (.L (.A 0) "readers") "get" [.A 1],.C (.I .Is (.A 3) .J) [.F "Misused"<|.E .Add (.C "no reader for ")<|.A 1] [],.B<|.G (.A 3) [.A 0,.A 2]]⟩
noncomputable def dR:FD:=⟨2,[],[.A (.A 2)<|.H (.A 1)<|.B 0,.C (.I .Eq (.A 2)<|.C "field") [.A (.A 3)<|.R (.L (.A 0) "fields") "get" [.H (.A 1)<|.B 1],.C (.I .Is (.A 3) .J) [.F "Misused"<|.E .Add (.C "unknown field ")<|.H (.A 1)<|.B 1] [],.B<|.G (.F 32) [.A 0,.H (.A 3)<|.B 0,.A 3]] [],.C (.I .Eq (.A 2)<|.C "num") [.B<|.H (.A 1)<|.B 1] [],.C (.I .In (.A 2)<|.D [.C "mask",.C "or",.C "xor",.C "shl",.C "shr"]) [.B<|.G (.F 65) [.A 0,.A 1]] [],.B<|.G (.F 32) [.A 0,.A 2,.A 1]]⟩
noncomputable def gP:FD:=⟨2,[],[.A (.A 2)<|.L (.A 0) "packet",.C (.I .Eq (.A 1)<|.C "l4proto") [.B<|.O (.I .Lt (.L (.A 2) "l4")<|.B 0) .J<|.L (.A 2) "l4"] [],.C (.I .Eq (.A 1)<|.C "nfproto") [.B<|.G (.F 28) [.A 2]] [],.C (.I .In (.A 1)<|.D [.C "length",.C "protocol"]) [.B<|.O (.I .Eq (.A 1)<|.C "length") (.K "len" [.L (.A 2) "data"])<|.L (.A 2) "kind"] [],.B<|.R (.L (.A 2) "meta") "get" [.A 1]]⟩
noncomputable def dp:FD:=⟨2,[],[.A (.D [.A 2,.A 3,.A 4,.A 5,.A 6,.A 7])<|.A 0,.A (.A 8)<|.Q ["l3proto","protocol","proto-src","proto-dst"] [.A 2,.A 3,.A 5,.A 7],.C (.I .In (.A 2)<|.D [.B 2,.B 10]) [.A (.B (.A 8)<|.O (.I .Eq (.A 2)<|.B 2) (.C "saddr4")<|.C "saddr6")<|.A 4,.A (.B (.A 8)<|.O (.I .Eq (.A 2)<|.B 2) (.C "daddr4")<|.C "daddr6")<|.A 6] [],.B<|.R (.A 8) "get" [.A 1]]⟩
noncomputable def dS:FD:=⟨3,[],[.A (.A 3)<|.L (.A 0) "talk",.C (.I .Eq (.A 1)<|.C "state") [.B<|.L (.A 0) "state"] [],.C (.I .Is (.A 3) .J) [.B .J] [],.A (.A 4)<|.Q ["status","direction","mark","zone"] [.L (.A 3) "status",.L (.A 0) "is_reply",.L (.A 3) "mark",.L (.A 3) "zone"],.A (.B (.A 4)<|.C "expiration")<|.K "max" [.E .Sub (.L (.A 3) "until")<|.L (.A 0) "now",.B 0],.C (.I .In (.A 1)<|.A 4) [.B<|.H (.A 4)<|.A 1] [],.B<|.G (.F 35) [.O (.I .Eq (.A 2)<|.C "reply") (.L (.A 3) "reply")<|.L (.A 3) "original",.A 1]]⟩
noncomputable def df:FD:=⟨2,[],[.A (.D [.A 2,.A 3,.A 4])<|.H (.A 1)<|.B 4,.C (.U<|.G (.F 31) [.A 0,.A 2]) [.B .J] [],.B<|.G (.F 30) [.L (.A 0) "packet",.A 3,.A 4,.H (.A 1)<|.B 2]]⟩
noncomputable def iE:FD:=⟨2,[],[.B<|.G (.F 34) [.A 0,.H (.A 1)<|.B 4]]⟩
noncomputable def ku:FD:=⟨2,[],[.B<|.G (.F 36) [.A 0,.H (.H (.A 1)<|.B 4)<|.B 0,.H (.H (.A 1)<|.B 4)<|.B 1]]⟩
noncomputable def fD:FD:=⟨0,[],[.B<|.Q ["payload","meta","ct"] [.F 37,.F 38,.F 39]]⟩
noncomputable def fY:FD:=⟨1,[],[.A (.A 1)<|.H (.A 0)<|.B 1,.A (.B (.A 0)<|.B 1)<|.E .Add (.A 1)<|.B 1,.C (.I .Lt (.A 1)<|.K "len" [.H (.A 0)<|.B 0]) [.B<|.H (.H (.A 0)<|.B 0)<|.A 1] [],.B<|.E .FloorDiv (.E .Mult (.E .Mult (.E .Add (.A 1)<|.B 3)<|.E .Add (.E .Add (.A 1)<|.B 7)<|.H (.A 0)<|.B 2)<|.B 40503)<|.B 64]⟩
noncomputable def gQ:FD:=⟨2,[],[.G [2,3]<|.D [.M [],.E .Mod (.G (.F 41) [.A 0])<|.B 65537],.E (.A 4) (.K "range" [.A 1]) [.A (.A 3)<|.E .Mod (.E .Add (.E .Mult (.A 3)<|.B 75)<|.B 74)<|.B 65537,.D<|.R (.A 2) "append" [.E .Add (.E .Mod (.A 3)<|.B 251)<|.E .FloorDiv (.A 3)<|.B 13107]],.B<|.A 2]⟩
noncomputable def iF:FD:=⟨0,[],[.A (.A 0)<|.M [.D [.C "type",.B 8],.D [.C "code",.B 8],.D [.C "checksum",.B 16],.D [.C "id",.B 16],.D [.C "sequence",.B 16]],.B<|.M [.D [.C "ether",.C "link",.M [.D [.C "daddr",.B 48],.D [.C "saddr",.B 48],.D [.C "type",.B 16]]],.D [.C "vlan",.C "link",.M [.D [.C ".",.B 112],.D [.C "pcp",.B 3],.D [.C "dei",.B 1],.D [.C "id",.B 12],.D [.C "type",.B 16]]],.D [.C "arp",.C "network",.M [.D [.C "htype",.B 16],.D [.C "ptype",.B 16],.D [.C "hlen",.B 8],.D [.C "plen",.B 8],.D [.C "operation",.B 16],.D [.C "saddr ether",.B 48],.D [.C "saddr ip",.B 32],.D [.C "daddr ether",.B 48],.D [.C "daddr ip",.B 32]]],.D [.C "ip",.C "network",.M [.D [.C "version",.B 4],.D [.C "hdrlength",.B 4],.D [.C "dscp",.B 6],.D [.C "ecn",.B 2],.D [.C "length",.B 16],.D [.C "id",.B 16],.D [.C "frag-off",.B 16],.D [.C "ttl",.B 8],.D [.C "protocol",.B 8],.D [.C "checksum",.B 16],.D [.C "saddr",.B 32],.D [.C "daddr",.B 32]]],.D [.C "ip6",.C "network",.M [.D [.C "version",.B 4],.D [.C "dscp",.B 6],.D [.C "ecn",.B 2],.D [.C "flowlabel",.B 20],.D [.C "length",.B 16],.D [.C "nexthdr",.B 8],.D [.C "hoplimit",.B 8],.D [.C "saddr",.B 128],.D [.C "daddr",.B 128]]],.D [.C "tcp",.C "transport",.M [.D [.C "sport",.B 16],.D [.C "dport",.B 16],.D [.C "sequence",.B 32],.D [.C "ackseq",.B 32],.D [.C "doff",.B 4],.D [.C "reserved",.B 4],.D [.C "flags",.B 8],.D [.C "window",.B 16],.D [.C "checksum",.B 16],.D [.C "urgptr",.B 16]]],.D [.C "udp",.C "transport",.M [.D [.C "sport",.B 16],.D [.C "dport",.B 16],.D [.C "length",.B 16],.D [.C "checksum",.B 16]]],.D [.C "th",.C "transport",.M [.D [.C "sport",.B 16],.D [.C "dport",.B 16]]],.D [.C "icmp",.C "transport",.A 0],.D [.C "icmp",.C "transport",.M [.D [.C ".",.B 32],.D [.C "gateway",.B 32]]],.D [.C "icmp",.C "transport",.M [.D [.C ".",.B 48],.D [.C "mtu",.B 16]]],.D [.C "icmpv6",.C "transport",.A 0],.D [.C "icmpv6",.C "transport",.M [.D [.C ".",.B 32],.D [.C "mtu",.B 32]]]]]⟩
noncomputable def iG:FD:=⟨1,[],[.A (.A 1)<|.B 0,.E (.A 2) (.A 0) [.A (.A 1)<|.E .Add (.E .Mult (.A 1)<|.B 256)<|.A 2],.B<|.A 1]⟩
noncomputable def jx:FD:=⟨2,[],[.A (.A 2)<|.H (.D [.B 5,.B 6,.B 5,.B 7,.B 4,.B 15])<|.E .Mod (.G (.F 41) [.A 0])<|.B 6,.A (.A 3)<|.G (.F 42) [.A 0,.E .Add (.E .Mult (.B 4)<|.A 2)<|.B 24],.A (.B (.A 3)<|.B 0)<|.E .Add (.O (.I .Eq (.E .Mod (.G (.F 41) [.A 0])<|.B 8)<|.B 7) (.B 80)<|.B 64)<|.A 2,.A (.A 4)<|.H (.D [.B 0,.B 16384,.B 8192,.B 8193,.B 8191,.B 32768])<|.E .Mod (.G (.F 41) [.A 0])<|.B 6,.A (.D [.B (.A 3)<|.B 6,.B (.A 3)<|.B 7,.B (.A 3)<|.B 9])<|.D [.E .FloorDiv (.A 4)<|.B 256,.E .Mod (.A 4)<|.B 256,.A 1],.B<|.A 3]⟩
noncomputable def bY:FD:=⟨1,[],[.C (.P false [.I .Lt (.K "len" [.A 0])<|.B 20,.I .NotEq (.E .FloorDiv (.H (.A 0)<|.B 0)<|.B 16)<|.B 4,.I .Lt (.E .Mod (.H (.A 0)<|.B 0)<|.B 16)<|.B 5,.I .Gt (.E .Mult (.E .Mod (.H (.A 0)<|.B 0)<|.B 16)<|.B 4)<|.K "len" [.A 0]]) [.B .J] [],.A (.A 1)<|.E .Add (.E .Mult (.H (.A 0)<|.B 6)<|.B 256)<|.H (.A 0)<|.B 7,.B<|.D [.H (.A 0)<|.B 9,.E .Mult (.E .Mod (.H (.A 0)<|.B 0)<|.B 16)<|.B 4,.E .Mult (.E .Mod (.A 1)<|.B 8192)<|.B 8,.I .Eq (.E .Mod (.E .FloorDiv (.A 1)<|.B 8192)<|.B 2)<|.B 1]]⟩
noncomputable def fZ:FD:=⟨2,[],[.A (.A 2)<|.G (.F 41) [.A 0],.C (.I .Eq (.A 1)<|.B 44) [.A (.A 3)<|.H (.D [.B 0,.B 1,.B 8,.B 65529,.B 6])<|.E .Mod (.A 2)<|.B 5,.B<|.M [.E .Mod (.A 2)<|.B 7,.E .FloorDiv (.A 3)<|.B 256,.E .Mod (.A 3)<|.B 256,.B 1,.B 2,.B 3,.B 4]] [],.A (.A 4)<|.O (.I .Eq (.A 1)<|.B 51) (.E .Mod (.A 2)<|.B 3)<|.E .Mod (.A 2)<|.B 2,.B<|.E .Add (.M [.A 4])<|.E .Mult (.M [.E .Mod (.A 2)<|.B 256])<|.E .Add (.B 6)<|.E .Mult (.A 4)<|.O (.I .Eq (.A 1)<|.B 51) (.B 4)<|.B 8]⟩
noncomputable def fw:FD:=⟨2,[],[.A (.D [.A 2,.A 3,.A 4,.A 5])<|.D [.M [],.B 0,.S false,.I .Eq (.E .Mod (.G (.F 41) [.A 0])<|.B 8)<|.B 7],.A (.A 6)<|.A 5,.E (.A 7) (.K "range" [.E .Mod (.G (.F 41) [.A 0])<|.B 4]) [.C (.I .Eq (.A 3)<|.B 0) [.A (.A 8)<|.H (.D [.B 0,.B 43,.B 60,.B 51,.B 44,.B 44])<|.E .Mod (.G (.F 41) [.A 0])<|.B 6,.A (.A 9)<|.G (.F 47) [.A 0,.A 8],.C (.I .Eq (.A 8)<|.B 44) [.G [3,4]<|.D [.E .Mult (.E .FloorDiv (.E .Add (.E .Mult (.H (.A 9)<|.B 1)<|.B 256)<|.H (.A 9)<|.B 2)<|.B 8)<|.B 8,.I .Eq (.E .Mod (.H (.A 9)<|.B 2)<|.B 2)<|.B 1]] [],.A (.A 6)<|.P false [.A 6,.P true [.I .Eq (.A 8)<|.B 0,.I .NotEq (.A 2)<|.M []]],.D<|.R (.A 2) "append" [.D [.A 8,.A 9]]] []],.A (.A 10)<|.G (.F 42) [.A 0,.B 64],.A (.A 11)<|.N (.A 10) (.B 40) .J,.A (.A 10)<|.N (.A 10) .J<|.B 40,.A (.B (.A 10)<|.B 0)<|.E .Add (.O (.A 5) (.B 64)<|.B 96)<|.E .Mod (.H (.A 10)<|.B 0)<|.B 16,.A (.B (.A 10)<|.B 6)<|.O (.I .NotEq (.A 2)<|.M []) (.H (.H (.A 2)<|.B 0)<|.B 0)<|.A 1,.E (.A 7) (.K "range" [.K "len" [.A 2]]) [.A (.A 10)<|.E .Add (.E .Add (.A 10)<|.M [.O (.I .Lt (.E .Add (.A 7)<|.B 1)<|.K "len" [.A 2]) (.H (.H (.A 2)<|.E .Add (.A 7)<|.B 1)<|.B 0)<|.A 1])<|.H (.H (.A 2)<|.A 7)<|.B 1],.B<|.D [.E .Add (.A 10)<|.A 11,.K "len" [.A 10],.A 3,.A 4,.A 6]]⟩
noncomputable def cj:FD:=⟨3,[],[.C (.I .Eq (.A 1)<|.B 34525) [.A (.D [.A 3,.A 4,.A 5,.A 6,.A 7])<|.G (.F 48) [.A 0,.A 2]] [.C (.I .Eq (.A 1)<|.B 2048) [.A (.A 3)<|.G (.F 45) [.A 0,.A 2]] [.A (.A 3)<|.G (.F 42) [.A 0,.B 30]]],.G [8,9]<|.D [.E .Mod (.G (.F 41) [.A 0])<|.B 4,.G (.F 41) [.A 0]],.C (.I .Eq (.A 8)<|.B 2) [.A (.A 3)<|.N (.A 3) .J<|.E .Mod (.A 9)<|.E .Add (.K "len" [.A 3])<|.B 1] [],.C (.I .Eq (.A 8)<|.B 3) [.A (.A 3)<|.N (.A 3) .J<|.E .Sub (.K "len" [.A 3])<|.E .Mod (.A 9)<|.B 25] [],.C (.I .Eq (.A 1)<|.B 34525) [.B<|.D [.A 3,.O (.P false [.A 7,.I .Lt (.K "len" [.A 3])<|.A 4]) .J<|.D [.A 2,.A 4,.A 5,.A 6]]] [],.B<|.D [.A 3,.O (.I .Eq (.A 1)<|.B 2048) (.G (.F 46) [.A 3]) .J]]⟩
noncomputable def iH:FD:=⟨3,[],[.G [3,4]<|.D [.G (.F 42) [.A 0,.B 12],.M []],.G [5,6]<|.D [.G (.F 44) [.N (.A 3) .J<|.B 6],.G (.F 44) [.N (.A 3) (.B 6) .J]],.E (.A 7) (.K "range" [.A 2]) [.A (.A 8)<|.G (.F 41) [.A 0],.G [9,10]<|.D [.H (.D [.B 33024,.B 34984])<|.E .Mod (.A 8)<|.B 2,.E .Mod (.E .FloorDiv (.A 8)<|.B 2)<|.B 65536],.D<|.R (.A 4) "append" [.D [.A 9,.E .FloorDiv (.A 10)<|.B 8192,.E .Mod (.E .FloorDiv (.A 10)<|.B 4096)<|.B 2,.E .Mod (.A 10)<|.B 4096]],.A (.A 3)<|.E .Add (.A 3)<|.M [.E .FloorDiv (.A 9)<|.B 256,.E .Mod (.A 9)<|.B 256,.E .FloorDiv (.A 10)<|.B 256,.E .Mod (.A 10)<|.B 256]],.B<|.D [.E .Add (.A 3)<|.M [.E .FloorDiv (.A 1)<|.B 256,.E .Mod (.A 1)<|.B 256],.D [.A 5,.A 6,.A 4,.A 1]]]⟩
noncomputable def ga:FD:=⟨4,[],[.E (.D [.A 4,.A 5,.A 6]) (.G (.F 43) []) [.A (.D [.A 7,.A 8,.A 9])<|.H (.A 3)<|.A 5,.A (.A 10)<|.B 0,.E (.D [.A 11,.A 12]) (.A 6) [.A (.A 13)<|.E .Add (.E .Add (.A 9)<|.A 10)<|.A 12,.C (.I .NotEq (.A 11)<|.C ".") [.G [14,15]<|.D [.E .Add (.E .Add (.A 4)<|.C " ")<|.A 11,.J],.C (.P true [.H (.A 2)<|.A 4,.I .GtE (.A 9)<|.B 0,.I .LtE (.A 13)<|.A 8]) [.A (.A 15)<|.E .Mod (.E .FloorDiv (.A 7)<|.E .Pow (.B 2)<|.E .Sub (.A 8)<|.A 13)<|.E .Pow (.B 2)<|.A 12] [],.A (.D [.B (.A 0)<|.A 14,.B (.A 1)<|.A 14])<|.D [.A 15,.E .Add (.E .Sub (.E .FloorDiv (.E .Sub (.E .Add (.A 10)<|.A 12)<|.B 1)<|.B 8)<|.E .FloorDiv (.A 10)<|.B 8)<|.B 1]] [],.J 10 .Add<|.A 12]]]⟩
noncomputable def jy:FD:=⟨2,[],[.A (.A 2)<|.O (.I .Eq (.A 1)<|.B 10) (.B 128)<|.B 32,.A (.A 3)<|.M [.A 1,.E .Mod (.G (.F 41) [.A 0])<|.B 256],.E (.A 4) (.K "range" [.B 2]) [.A (.A 3)<|.E .Add (.A 3)<|.M [.E .Mod (.G (.F 41) [.A 0])<|.E .Pow (.B 2)<|.A 2,.E .Mod (.G (.F 41) [.A 0])<|.B 65536]],.B<|.D [.H (.A 3)<|.B 0,.H (.A 3)<|.B 1,.H (.A 3)<|.B 2,.H (.A 3)<|.B 3,.H (.A 3)<|.B 4,.H (.A 3)<|.B 5]]⟩
noncomputable def jz:FD:=⟨4,[],[.A (.A 4)<|.M [.C "ct direction",.C "ct l3proto",.C "ct protocol",.C "ct zone",.C "ct status",.C "ct mark",.C "ct expiration",.C "ct state"],.E (.A 5) (.K "range" [.B 8]) [.A (.D [.B (.A 0)<|.H (.A 4)<|.A 5,.B (.A 1)<|.H (.A 4)<|.A 5])<|.D [.J,.H (.D [.B 1,.B 1,.B 1,.B 2,.B 4,.B 4,.B 4,.B 4])<|.A 5]],.A (.B (.A 0)<|.C "ct state")<|.L (.A 2) "state",.C (.I .IsNot (.A 3) .J) [.A (.D [.B (.A 0)<|.C "ct direction",.B (.A 0)<|.C "ct l3proto",.B (.A 0)<|.C "ct protocol"])<|.D [.L (.A 2) "is_reply",.H (.L (.A 3) "original")<|.B 0,.H (.L (.A 3) "original")<|.B 1],.A (.D [.B (.A 0)<|.C "ct zone",.B (.A 0)<|.C "ct status",.B (.A 0)<|.C "ct mark"])<|.D [.L (.A 3) "zone",.L (.A 3) "status",.L (.A 3) "mark"],.A (.B (.A 0)<|.C "ct expiration")<|.O (.I .Gt (.L (.A 3) "until")<|.L (.A 2) "now") (.E .Sub (.L (.A 3) "until")<|.L (.A 2) "now")<|.B 0] [],.E (.A 6) (.D [.C "original",.C "reply"]) [.E (.D [.A 7,.A 8,.A 9,.A 5]) (.D [.D [.C "ip saddr",.B 4,.B 2,.B 2],.D [.C "ip daddr",.B 4,.B 2,.B 4],.D [.C "ip6 saddr",.B 16,.B 10,.B 2],.D [.C "ip6 daddr",.B 16,.B 10,.B 4],.D [.C "proto-src",.B 2,.B 0,.B 3],.D [.C "proto-dst",.B 2,.B 0,.B 5]]) [.G [10,11]<|.D [.E .Add (.E .Add (.E .Add (.C "ct ")<|.A 6)<|.C " ")<|.A 7,.J],.C (.I .IsNot (.A 3) .J) [.A (.A 12)<|.O (.I .Eq (.A 6)<|.C "original") (.L (.A 3) "original")<|.L (.A 3) "reply",.C (.P false [.I .Eq (.A 9)<|.B 0,.I .Eq (.A 9)<|.H (.A 12)<|.B 0]) [.A (.A 11)<|.H (.A 12)<|.A 5] []] [],.A (.D [.B (.A 0)<|.A 10,.B (.A 1)<|.A 10])<|.D [.A 11,.A 8]]]]⟩
noncomputable def jA:FD:=⟨3,[],[.A (.A 3)<|.M [.D [.C "length",.B 4],.D [.C "protocol",.B 2],.D [.C "nfproto",.B 1],.D [.C "l4proto",.B 1],.D [.C "mark",.B 4],.D [.C "priority",.B 4],.D [.C "iif",.B 4],.D [.C "oif",.B 4],.D [.C "iifname",.B 16],.D [.C "oifname",.B 16],.D [.C "iiftype",.B 2],.D [.C "oiftype",.B 2],.D [.C "pkttype",.B 1]],.E (.D [.A 4,.A 5]) (.A 3) [.A (.D [.B (.A 0)<|.E .Add (.C "meta ")<|.A 4,.B (.A 1)<|.E .Add (.C "meta ")<|.A 4])<|.D [.H (.A 2)<|.A 4,.A 5]]]⟩
noncomputable def gb:FD:=⟨2,[],[.K [.D<|.G (.F 33) [.A 0,.D [.C "field",.A 1]]] "Misused" 2 [.B<|.L (.A 2) "why"],.B<|.C ""]⟩
noncomputable def fE:FD:=⟨1,[],[.K [.D<|.G (.F 27) [.A 0]] "BadPacket" 1 [.B<|.I .Eq (.L (.A 1) "why")<|.C "frame too short"],.B<|.S false]⟩
noncomputable def iI:FD:=⟨2,[],[.A (.A 2)<|.Q ["mark","priority","iif","oif","iifname","oifname","pkttype","iiftype","oiftype"] [.B 0,.B 0,.B 0,.B 0,.B 0,.B 0,.B 0,.B 1,.B 1],.A (.A 3)<|.G (.F 41) [.A 0],.C (.I .NotEq (.L (.A 1) "meta")<|.A 2) [.B .J] [],.A (.A 4)<|.B 0,.E (.A 5) (.D [.C "mark",.C "priority",.C "iif",.C "oif",.C "iifname",.C "oifname",.C "pkttype",.C "iiftype",.C "oiftype"]) [.J 4 .Add<|.B 1,.C (.I .Eq (.E .Mod (.E .FloorDiv (.A 3)<|.E .Pow (.B 2)<|.A 4)<|.B 2)<|.B 1) [.A (.B (.A 2)<|.A 5)<|.E .Add (.E .Mod (.A 3)<|.B 997)<|.A 4,.A (.B (.L (.A 1) "meta")<|.A 5)<|.H (.A 2)<|.A 5] []],.B<|.A 2]⟩
noncomputable def dB:FD:=⟨2,[],[.A (.A 2)<|.E .Mod (.G (.F 41) [.A 0])<|.B 7,.C (.I .Lt (.A 2)<|.B 2) [.B .J] [],.A (.A 3)<|.H (.D [.B 2,.B 10,.B 2,.B 10,.B 3])<|.E .Sub (.A 2)<|.B 2,.A (.A 4)<|.G (.F 64) [.B 1,.G (.F 52) [.A 0,.A 3],.G (.F 52) [.A 0,.A 3],.E .Mod (.G (.F 41) [.A 0])<|.B 65536],.A (.C (.A 4) "until")<|.E .Add (.E .Sub (.L (.A 1) "now")<|.B 3)<|.E .Mod (.G (.F 41) [.A 0])<|.B 9,.A (.D [.C (.A 4) "status",.C (.A 4) "mark"])<|.D [.E .Mod (.G (.F 41) [.A 0])<|.B 1024,.E .Mod (.G (.F 41) [.A 0])<|.E .Pow (.B 2)<|.B 32],.B<|.A 4]⟩
noncomputable def dT:FD:=⟨5,[],[.A (.D [.A 5,.A 6,.A 7])<|.O (.I .Is (.A 4) .J) (.D [.T<|.B 1,.B 0,.T<|.B 1])<|.D [.H (.A 4)<|.B 0,.H (.A 4)<|.B 2,.O (.I .Gt (.H (.A 4)<|.B 2)<|.B 0) (.T<|.B 1)<|.H (.A 4)<|.B 1],.C (.P false [.P true [.I .Eq (.A 1)<|.B 2048,.I .NotEq (.G (.F 18) [.K "bytes" [.A 2]])<|.A 4],.P true [.I .Eq (.A 1)<|.B 34525,.I .NotEq (.G (.F 22) [.K "bytes" [.A 2]])<|.A 4]]) [.B<|.S false] [],.C (.P false [.I .NotEq (.K "bytes" [.L (.A 0) "data"])<|.K "bytes" [.A 2],.I .NotEq (.K "bytes" [.L (.A 0) "link"])<|.K "bytes" [.A 3]]) [.B<|.S false] [],.B<|.I .Eq (.D [.L (.A 0) "kind",.L (.A 0) "l4",.L (.A 0) "off",.L (.A 0) "place"])<|.D [.A 1,.A 5,.A 7,.A 6]]⟩
noncomputable def cF:FD:=⟨1,[],[.A (.A 0)<|.N (.A 0) .J<|.B 63,.A (.A 1)<|.M [.A 0,.B 0,.E .Mod (.K "sum" [.A 0])<|.B 65521],.A (.A 2)<|.H (.D [.B 2048,.B 34525,.B 2048,.B 34525,.B 2054,.B 4660])<|.E .Mod (.G (.F 41) [.A 1])<|.B 6,.A (.A 3)<|.H (.D [.B 6,.B 17,.B 1,.B 58,.B 47,.B 6,.B 17,.B 59])<|.E .Mod (.G (.F 41) [.A 1])<|.B 8,.A (.A 4)<|.E .Mod (.G (.F 41) [.A 1])<|.B 4,.A (.D [.A 5,.A 6])<|.G (.F 49) [.A 1,.A 2,.A 3],.A (.A 7)<|.M [],.C (.I .Eq (.A 4)<|.B 0) [.A (.A 8)<|.O (.I .Eq (.A 2)<|.B 2048) (.G (.F 26) [.K "bytes" [.A 5]])<|.G (.F 26) [.K "bytes" [.A 5],.A 2]] [.A (.D [.A 7,.A 9])<|.G (.F 50) [.A 1,.A 2,.E .Sub (.A 4)<|.B 1],.A (.D [.A 10,.A 11])<|.G (.F 23) [.K "bytes" [.E .Add (.A 7)<|.A 5]],.C (.P false [.I .NotEq (.D [.L (.A 10) "target",.L (.A 10) "source",.L (.A 10) "tags",.L (.A 10) "kind"])<|.A 9,.I .NotEq (.A 11)<|.K "len" [.A 7]]) [.B<|.S false] [],.C (.U<|.G (.F 56) [.K "bytes" [.N (.A 7) .J<|.E .Mod (.G (.F 41) [.A 1])<|.K "len" [.A 7]]]) [.B<|.S false] [],.A (.A 8)<|.G (.F 27) [.K "bytes" [.E .Add (.A 7)<|.A 5]]],.C (.U<|.G (.F 59) [.A 8,.A 2,.A 5,.A 7,.A 6]) [.B<|.S false] [],.A (.A 12)<|.G (.F 63) [.A 8,.G (.F 10) [],.E .Add (.B 10)<|.E .Mod (.G (.F 41) [.A 1])<|.B 100000],.A (.A 13)<|.G (.F 57) [.A 1,.A 8],.C (.I .Is (.A 13) .J) [.B<|.S false] [],.E (.D [.A 14,.A 15]) (.D [.D [.C "ip id",.C "payload"],.D [.C "meta mark",.C "meta"],.D [.C "ct state",.C "ct"]]) [.C (.I .NotEq (.G (.F 55) [.A 12,.A 14])<|.E .Add (.C "no reader for ")<|.A 15) [.B<|.S false] []],.A (.D [.C (.A 12) "state",.C (.A 12) "is_reply"])<|.D [.H (.D [.B 1,.B 2,.B 4,.B 8,.B 64])<|.E .Mod (.G (.F 41) [.A 1])<|.B 5,.E .Mod (.G (.F 41) [.A 1])<|.B 2],.A (.C (.A 12) "talk")<|.G (.F 58) [.A 1,.A 12],.A (.D [.B (.A 13)<|.C "length",.B (.A 13)<|.C "protocol",.B (.A 13)<|.C "l4proto"])<|.D [.K "len" [.A 5],.A 2,.O (.I .Is (.A 6) .J) .J<|.H (.A 6)<|.B 0],.A (.B (.A 13)<|.C "nfproto")<|.O (.I .Eq (.A 2)<|.B 2048) (.B 2)<|.O (.I .Eq (.A 2)<|.B 34525) (.B 10)<|.O (.I .Eq (.A 2)<|.B 2054) (.B 3)<|.B 0,.A (.A 16)<|.O (.I .Is (.A 6) .J) (.T<|.B 1)<|.H (.A 6)<|.B 0,.A (.A 17)<|.Q ["ether","vlan","arp","ip","ip6","tcp","udp","th","icmp","icmpv6"] [.S true,.I .Eq (.N (.A 7) (.B 12)<|.B 14)<|.M [.B 129,.B 0],.I .Eq (.A 2)<|.B 2054,.I .Eq (.A 2)<|.B 2048,.I .Eq (.A 2)<|.B 34525,.I .Eq (.A 16)<|.B 6,.I .Eq (.A 16)<|.B 17,.S true,.P true [.I .Eq (.A 2)<|.B 2048,.I .Eq (.A 16)<|.B 1],.P true [.I .Eq (.A 2)<|.B 34525,.I .Eq (.A 16)<|.B 58]],.G [18,19,20]<|.D [.G (.F 44) [.A 5],.E .Mult (.B 8)<|.K "len" [.A 5],.T<|.B 1],.C (.P true [.I .IsNot (.A 6) .J,.I .Eq (.H (.A 6)<|.B 2)<|.B 0]) [.A (.A 20)<|.E .Mult (.B 8)<|.H (.A 6)<|.B 1] [],.A (.A 21)<|.Q ["network","transport","link"] [.D [.A 18,.A 19,.B 0],.D [.A 18,.A 19,.A 20],.D [.G (.F 44) [.A 7],.E .Mult (.B 8)<|.K "len" [.A 7],.B 0]],.G [22,23]<|.D [.Q [] [],.Q [] []],.D<|.G (.F 51) [.A 22,.A 23,.A 17,.A 21],.D<|.G (.F 53) [.A 22,.A 23,.A 12,.L (.A 12) "talk"],.D<|.G (.F 54) [.A 22,.A 23,.A 13],.C (.P false [.I .NotEq (.K "sorted" [.L (.A 12) "fields"])<|.K "sorted" [.A 22],.I .NotEq (.G (.F 55) [.A 12,.C "ip none"])<|.C "unknown field ip none"]) [.B<|.S false] [],.A (.C (.A 12) "readers")<|.G (.F 40) [],.E (.A 14) (.A 22) [.C (.P false [.I .NotEq (.G (.F 33) [.A 12,.D [.C "field",.A 14]])<|.H (.A 22)<|.A 14,.I .NotEq (.G (.F 15) [.L (.A 12) "fields",.D [.C "field",.A 14]])<|.H (.A 23)<|.A 14]) [.B<|.S false] []],.B<|.S true]⟩
noncomputable def oM:FD:=⟨5,[],[.A (.C (.A 0) "target")<|.A 1,.A (.C (.A 0) "source")<|.A 2,.A (.C (.A 0) "tags")<|.A 3,.A (.C (.A 0) "kind")<|.A 4]⟩
noncomputable def mz:FD:=⟨4,[],[.A (.C (.A 0) "data")<|.K "bytearray" [.A 1],.A (.C (.A 0) "link")<|.K "bytearray" [.A 3],.A (.C (.A 0) "kind")<|.A 2,.A (.C (.A 0) "l4")<|.T<|.B 1,.A (.C (.A 0) "off")<|.T<|.B 1,.A (.C (.A 0) "place")<|.B 0,.A (.C (.A 0) "meta")<|.G (.F 24) []]⟩
noncomputable def oN:FD:=⟨5,[.A 0,.D "input"],[.A (.C (.A 0) "packet")<|.A 1,.A (.C (.A 0) "now")<|.A 3,.A (.C (.A 0) "hook")<|.A 4,.A (.C (.A 0) "talk") .J,.A (.C (.A 0) "state")<|.B 1,.A (.C (.A 0) "is_reply")<|.B 0,.A (.C (.A 0) "talks") .J,.A (.C (.A 0) "sets")<|.Q [] [],.A (.C (.A 0) "objects")<|.Q [] [],.A (.C (.A 0) "fields")<|.A 2,.A (.C (.A 0) "readers")<|.Q [] [],.A (.C (.A 0) "doers")<|.Q [] [],.A (.C (.A 0) "ops")<|.Q [] [],.A (.C (.A 0) "tools")<|.Q [] [],.A (.C (.A 0) "order")<|.C "little",.A (.C (.A 0) "log")<|.M [],.A (.C (.A 0) "replies")<|.M [],.A (.C (.A 0) "steps") .J,.A (.C (.A 0) "homes")<|.Q [] []]⟩
noncomputable def rO:FD:=⟨5,[],[.A (.C (.A 0) "number")<|.A 1,.A (.C (.A 0) "original")<|.A 2,.A (.C (.A 0) "reply")<|.A 3,.A (.C (.A 0) "zone")<|.A 4,.A (.C (.A 0) "until")<|.B 0,.A (.C (.A 0) "since")<|.B 0,.A (.C (.A 0) "mark")<|.B 0,.A (.C (.A 0) "status")<|.B 0,.A (.C (.A 0) "state")<|.B 0,.A (.C (.A 0) "sides") .J,.A (.C (.A 0) "master")<|.B 0]⟩
def qE:List (Option FD):=[
 some eQ,
 some fS,
 some iz,
 some gL,
 some gM,
 some gN,
 some iA,
 some fT,
 some fU,
 some iB,
 some gO,
 some ju,
 some fV,
 some iC,
 some fW,
 some kr,
 some nv,
 some gZ,
 some eR,
 some cD,
 some dA,
 some jv,
 some fX,
 some cR,
 some jw,
 some gy,
 some fu,
 some de,
 some iD,
 some kt,
 some ez,
 some fv,
 some hJ,
 some dR,
 some gP,
 some dp,
 some dS,
 some df,
 some iE,
 some ku,
 some fD,
 some fY,
 some gQ,
 some iF,
 some iG,
 some jx,
 some bY,
 some fZ,
 some fw,
 some cj,
 some iH,
 some ga,
 some jy,
 some jz,
 some jA,
 some gb,
 some fE,
 some iI,
 some dB,
 some dT,
 some cF,
 none,
 none,
 none,
 none,
 none,
 some oM,
 some mz,
 some oN,
 some rO]
def jQ(i:Nat):Option FD:=(qE[i]?).join
noncomputable def oh(i:Nat):Option (Nat×Str):=if i<61 then none else([(66,Str.ofString "Ether"),(67,Str.ofString "Packet"),(68,Str.ofString "Scene"),(69,Str.ofString "Talk")]:List (Nat×Str))[i - 61]?
end Mine
end
section
open PySem PySem.W PyProof.Rows PySem.Calls
namespace Mine
def V.K(c:Nat->Nat)(v:V):V:=V.rec (motive_1:=λ_=>V) (motive_2:=λ_=>List V) .C .E .A .D .G (λ_ l=>.F l) .I (λi=>.B<|c i) .H [] (λ_ _ a b=>a::b) v
noncomputable def adj(c:Nat->Nat)(l:List V):List V:=V.rec_1 (motive_1:=λ_=>V) (motive_2:=λ_=>List V) .C .E .A .D .G (λ_ l=>.F l) .I (λi=>.B<|c i) .H [] (λ_ _ a b=>a::b) l
def V.J(n:Nat)(v:V):Bool:=V.rec (motive_1:=λ_=>Bool) (motive_2:=λ_=>Bool) true (λ_=>true) (λ_=>true) (λ_=>true) (λ_=>true) (λ_ b=>b) (λ_=>true) (λi=>decide (i<n)) (λ_=>true) true (λ_ _ a b=>a&&b) v
noncomputable def rX(n:Nat)(l:List V):Bool:=V.rec_1 (motive_1:=λ_=>Bool) (motive_2:=λ_=>Bool) true (λ_=>true) (λ_=>true) (λ_=>true) (λ_=>true) (λ_ b=>b) (λ_=>true) (λi=>decide (i<n)) (λ_=>true) true (λ_ _ a b=>a&&b) l
noncomputable def wX(a:Nat->Nat)(l:List (Str×V)):List (Str×V):=l.map λp=>(p.1,p.2.K a)
noncomputable def tM(n:Nat)(l:List (Str×V)):Bool:=l.all λp=>p.2.J n
def O.F(a:Nat->Nat)(o:O):O:=oC o o (λl=>.A<|adj a l) (λl ep=>.B (wX a l) ep) .D λc fs=>.C c<|wX a fs
def O.E(n:Nat)(o:O):Bool:=oC true o (rX n) (λl _=>tM n l) (λ_=>true) λ_ fs=>tM n fs
def WfH(H:Hp):Prop:=∀(i:Nat) (o:O),H[i]?=some o->o.E H.length=true
structure Sub(n:Nat)(σ:Nat->Nat)(H H':Hp):Prop where
 Aa:∀(i:Nat) (o:O),H[i]?=some o->H'[σ i]?=some (o.F σ)/\o.E H.length=true
 inj:∀i j,i<H.length->j<H.length->σ i=σ j->i=j
 Ac:∀i,i<n->σ i=i
 Ab:n<=H.length
def wY(n:Nat)(r b:bJ V):Prop:=r=b∨bJ.casesOn (motive:=λ_=>Prop) r
 (λv H=>∃a H',b=.ok (v.K a) H'/\Sub n a H H'/\v.J H.length=true)
 (λk x H=>∃a H',b=.Ac k x H'/\Sub n a H H') True
def aM(c:CF):CF:=λx args=>(jQ x).elim
 (cs (oh x) λp=>cs (jQ p.1) λfd=>AM.Aa (jp<|.C p.2 []) λr=>AM.Aa (zf c fd<|r::args) λv=>vC AM.Ac v (none:=AM.Ab r)) λfd=>zf c fd args
noncomputable def CF.Aa(c:CF)(i:Nat)(f:List V->AM V):CF:=λx=>if x=i then f else c x
theorem tN:wY n r r:=.inl rfl
inductive eK:Nat->CF->Prop
 |Ab:eK 0 (λ_ _=>AM.Ac)
 |Aa {n:Nat}{c:CF}{i:Nat}{f:List V->AM V}:eK n c->(∀args H,WfH H->rX H.length args=true->wY H.length (f args H) (aM c i args H))->eK (n+2) (c.Aa i f)
section
noncomputable def aeU(d:a)(v:Value)(int:Int->Tok->a:=λ_ _=>d)(str:Str->Tok->a:=λ_ _=>d)(ref:Addr->a:=λ_=>d):a:=
 Value.casesOn (motive:=λ_=>a) v d d d (λ_=>d) int (λ_ _=>d) str (λ_ _=>d) (λ_=>d) (λ_=>d) ref
structure B0 extends Heap where
 Aa:List Addr
section
variable (U:Program) (w:World) (J:Nat->Value) (Y:Str->Option Addr)
mutual
inductive VR(ρ:List (Addr×Addr))(h:Heap):Value->V->Prop
 |Ai:VR ρ h .none .C
 |Aj (b:Bool):VR ρ h (.bool b) (.E b)
 |Ac (i:Int)(t:Tok):VR ρ h (.int i t) (.A i)
 |Am (x:Str)(t:Tok):VR ρ h (.str x t) (.D x)
 |Af (l:List UInt8)(t:Tok):VR ρ h (.bytes l.toArray t) (.G l)
 |Ax {a:Addr}{vs:List Value}{l:List V}:h.IsTuple a vs.toArray->bN ρ h vs l->VR ρ h (.ref a) (.F l)
 |Av {a:Addr}{n:Int}{t u v:Tok}:IsRange h a 0 n 1 t u v->VR ρ h (.ref a) (.I n)
 |An {i:Nat}{p:Addr×Addr}:ρ[i]?=some p->VR ρ h (.ref p.1) (.B i)
 |As {i:Nat}:VR ρ h (J i) (.H i)
inductive bN(ρ:List (Addr×Addr))(h:Heap):List Value->List V->Prop
 |Ad:bN ρ h [] []
 |Ab {v:Value}{x:V}{vs:List Value}{l:List V}:VR ρ h v x->bN ρ h vs l->bN ρ h (v::vs) (x::l)
end
inductive nh(ρ:List (Addr×Addr))(h:Heap):List DictEntry->List (Str×V)->Prop
 |Ab:nh ρ h [] []
 |Aa {e:DictEntry}{x:Str}{t:Tok}{v:V}{es:List DictEntry}{l:List (Str×V)}:e.key=.str x t->VR J ρ h e.val v->nh ρ h es l->nh ρ h (e::es) ((x,v)::l)
inductive gw(ρ:List (Addr×Addr))(h:Heap):List (Str×Value)->List (Str×V)->Prop
 |Ae:gw ρ h [] []
 |Ac {x:Str}{u:Value}{v:V}{es:List (Str×Value)}{l:List (Str×V)}:VR J ρ h u v->gw ρ h es l->gw ρ h ((x,u)::es) ((x,v)::l)
noncomputable def fC(ρ:List (Addr×Addr))(h:Heap)(p:Addr×Addr):O->Prop
 | .A l=>p.2=p.1/\∃vs n,h.get? p.1=some ⟨.type "list",none,.seq (List.toArray vs) n, #[]⟩/\bN J ρ h vs l
 | .B l ep=>p.2=p.1/\∃kvs e,h.DictAt (strKind U w) p.1 kvs e/\(∀k,ep=some k->k=e)/\gw J ρ h kvs l
 | .D l=>p.2=p.1/\h.get? p.1=some ⟨.type "bytearray",none,.bytearray l.toArray 0, #[]⟩
 | .C c fs=>∃C a es n,Y c=some C/\h.get? p.1=some a/\a.cls=.ref C/\notCls a=true/\a.dict=some p.2/\h.get? p.2=some (dictOf es n)/\nh J ρ h es fs
structure Sr(hz:Heap)(ρ:List (Addr×Addr))(H:Hp)(h:Heap):Prop where
 Aa:∀b o,hz.get? b=some o->h.get? b=some o
 Ab:ρ.length=H.length
 Ac:∀(i:Nat) (o:O) (p:Addr×Addr),H[i]?=some o->ρ[i]?=some p->fC U w J Y ρ h p o
 inj:∀(i j:Nat) (p q:Addr×Addr),ρ[i]?=some p->ρ[j]?=some q->(p.1=q.1∨p.1=q.2∨p.2=q.1∨p.2=q.2)->i=j
 Ad:∀p∈ρ,hz.get? p.1=none/\hz.get? p.2=none
structure Mv(L:Addr)(ρ:List (Addr×Addr))(h:Heap)(ρ':List (Addr×Addr))(h':Heap):Prop where
 kp:∀b o,h.get? b=some o->b≠L->(∀p∈ρ,b≠p.1/\b≠p.2)->h'.get? b=some o∨((∃es ep,o.data=.dict es ep)/\∃sl,h'.get? b=some {o with slots:=sl})
 Ab:∃t,ρ'=ρ++t/\∀p∈t,h.get? p.1=none/\h.get? p.2=none
structure FS(hz:B0)(L:Addr)(m:Str->Option Value)(ρ:List (Addr×Addr))(H:Hp)(h:Heap):Prop where
 st:Sr U w J Y hz.toHeap ρ H h
 ns:h.Ns L m
 nL:∀p∈ρ,p.1≠L/\p.2≠L
 Aa:hz.objs.size<=L
 Ac:∀f∈hz.Aa,f≠L/\hz.get? f=none/\(∃o,h.get? f=some o/\∃es ep,o.data=.dict es ep)/\∀p∈ρ,f≠p.1/\f≠p.2
end
section
variable {U:Program} {w:World} {J:Nat->Value} {Y:Str->Option Addr} {hz:B0} {h h' h'':Heap} {ρ ρ' ρ'':List (Addr×Addr)} {H H':Hp} {L:Addr} {m:Str->Option Value}
def VI(J:Nat->Value)(ρ:List (Addr×Addr))(h:Heap)(u:Value)(G:Value->Prop)(v:V):Prop:=
 match v with
 | .C=>G .none->G u
 | .E b=>G (.bool b)->G u
 | .A i=>(∀t,G<|.int i t)->G u
 | .D x=>(∀t,G<|.str x t)->G u
 | .G l=>(∀t,G<|.bytes l.toArray t)->G u
 | .F l=>(∀a vs,h.IsTuple a (List.toArray vs)->bN J ρ h vs l->G (.ref a))->G u
 | .I n=>(∀a t x y,IsRange h a 0 n 1 t x y->G (.ref a))->G u
 | .B i=>(∀p:Addr×Addr,ρ[i]?=some p->G (.ref p.1))->G u
 | .H i=>G (J i)->G u
theorem VR.Ap(r:VR J ρ h u v):VI J ρ h u G v:=by
 cases r with
 |Ai=>exact id
 |Aj=>exact id
 |Ac=>exact λk=>k _
 |Am=>exact λk=>k _
 |Af=>exact λk=>k _
 |Ax a b=>exact λk=>k _ _ a b
 |Av a=>exact λk=>k _ _ _ _ a
 |An a=>exact λk=>k _ a
 |As=>exact id
@[elab_as_elim] theorem VR.Ah{G:Value->Prop}(r:VR J ρ h u .C)(k:G .none):G u:=VR.Ap (G:=G) r k
@[elab_as_elim] theorem VR.Ak{G:Value->Prop}(r:VR J ρ h u (.E b))(k:G (.bool b)):G u:=VR.Ap (G:=G) r k
@[elab_as_elim] theorem VR.Aa{G:Value->Prop}(r:VR J ρ h u (.A i))(k:∀t,G<|.int i t):G u:=VR.Ap (G:=G) r k
@[elab_as_elim] theorem VR.Ae{G:Value->Prop}(r:VR J ρ h u (.D x))(k:∀t,G<|.str x t):G u:=VR.Ap (G:=G) r k
@[elab_as_elim] theorem VR.Ad{G:Value->Prop}(r:VR J ρ h u (.G l))(k:∀t,G<|.bytes l.toArray t):G u:=VR.Ap (G:=G) r k
@[elab_as_elim] theorem VR.Ag{G:Value->Prop}(r:VR J ρ h u (.F l))(k:∀a vs,h.IsTuple a (List.toArray vs)->bN J ρ h vs l->G (.ref a)):G u:=VR.Ap (G:=G) r k
@[elab_as_elim] theorem VR.Ar{G:Value->Prop}(r:VR J ρ h u (.B i))(k:∀p:Addr×Addr,ρ[i]?=some p->G (.ref p.1)):G u:=VR.Ap (G:=G) r k
@[elab_as_elim] theorem VR.Ao{G:Value->Prop}(r:VR J ρ h u (.H i))(k:G (J i)):G u:=VR.Ap (G:=G) r k
@[elab_as_elim] theorem bN.Ai{G:List Value->Prop}(r:bN J ρ h a [])(k:G []):G a:=by cases r;exact k
@[elab_as_elim] theorem bN.Ag{G:List Value->Prop}(r:bN J ρ h a (x::l))(k:∀v vs,VR J ρ h v x->bN J ρ h vs l->G (v::vs)):G a:=by cases r;exact k _ _ ‹_› ‹_›
theorem bw{i:Nat}(e:ρ[i]?=some p):p∈ρ:=Zp e
theorem kB(e:p∈ρ):∃i:Nat,ρ[i]?=some p:=List.mem_iff_getElem?.mp e
theorem FS.Ah(F:FS U w J Y hz L m ρ H h):hz.get? L=none:=by
 cases q:hz.get? L with
 |none=>rfl
 |some o=>exact absurd (Qr (QP q) F.Aa)<|Nat.lt_irrefl _
theorem Mv.Ae:Mv L ρ h ρ h:=⟨λ_ _ e _ _=>.inl e,[],by simp,by simp⟩
theorem fC.Aa(x:fC U w J Y ρ h p o):(∃a,h.get? p.1=some a/\a.cls≠.type "tuple"/\a.cls≠.type "frame"/\a.cls≠.type "range")/\
 (∃a,h.get? p.2=some a/\a.cls≠.type "tuple"/\a.cls≠.type "frame"/\a.cls≠.type "range"):=by
 cases o with
 |A l=>
  refine aP x λe f=>?_;clear x;refine cM f λvs n b _=>?_;clear f;exact af e<|⟨pZ _ b (by simp) (by simp)<|by simp,pZ _ b (by simp) (by simp)<|by simp⟩
 |B l ep=>
  refine aP x λe g=>?_;clear x;refine cM g λkvs q i _=>?_;clear g;refine dN i λo es b j _=>?_;clear i;refine af e ?_;haveI d:=j.1;exact⟨pZ _ b (by simp [d]) (by simp [d])<|by simp [d],pZ _ b (by simp [d]) (by simp [d])<|by simp [d]⟩
 |D l=>
  refine aP x λe b=>?_;clear x;exact af e<|⟨pZ _ b (by simp) (by simp)<|by simp,pZ _ b (by simp) (by simp)<|by simp⟩
 |C c fs=>
  refine acv x λC a es n _ b d _ _ k _=>?_;clear x;exact⟨pZ _ b (by simp [d]) (by simp [d])<|by simp [d],pZ _ k (by simp) (by simp)<|by simp⟩
theorem Sr.at(x:Sr U w J Y hz.toHeap ρ H h)(c:p∈ρ):∃(i:Nat) (o:O),ρ[i]?=some p/\H[i]?=some o/\fC U w J Y ρ h p o:=by
 refine bC (kB c) λi a=>?_;haveI b:i<H.length:=by exact cI x.Ab<|(Qg.mp a).1
 exact qe i (H[i]) a (Qw b)<|x.Ac i _ p (Qw b) a
theorem Sr.Ae(x:Sr U w J Y hz.toHeap ρ H h)(c:h.get? a=some o)(b:o.cls=.type "tuple"∨o.cls=.type "frame"∨o.cls=.type "range"):∀p∈ρ,a≠p.1/\a≠p.2:=λp f=>by
 refine dN (x.at f) λ_ _ _ _ g=>aP g.Aa λd e=>aT d λn i j=>?_;clear d;refine aT e λr k l=>?_;clear e;refine⟨λq=>?_,λq=>?_⟩
 ·rw [q,i] at c;injection c with z6;subst z6;rcases b with b|b|b<;>simp [b] at j
 ·rw [q,k] at c;injection c with z7;subst z7;rcases b with b|b|b<;>simp [b] at l
theorem Mv.Ad(x:Mv L ρ h ρ' h')(F:FS U w J Y hz L m ρ' H' h')(e:h.get? b=some o):(h'.get? b).isSome=true:=by
 by_cases q:b=L
 ·exact oq F.ns λo _ _ i _=>af q<|af i rfl
 ·by_cases r:∀p∈ρ,b≠p.1/\b≠p.2
  ·rcases x.kp b o e q r with d|⟨_,_,d⟩<;>(refine af d ?_)<;>rfl
  ·refine aT x.Ab λt j _=>?_;subst j;have f:∃p∈ρ,b=p.1∨b=p.2:=by
    apply Classical.byContradiction;intro h;exact r λp c=>⟨λe=>h<|bv p c<|.inl e,λe=>h<|bv p c<|.inr e⟩
   refine aT f λp c k=>?_;clear f;refine dN (F.st.at<|List.mem_append_left _ c) λ_ _ _ _ l=>?_;refine aP l.Aa λg a=>?_;refine aT g λu n v=>?_;clear g;refine aT a λy s z=>?_;clear a;rcases k with rfl|rfl
   ·exact af n rfl
   ·exact af s rfl
theorem Mv.Aa(F:FS U w J Y hz L m ρ' H' h')(x:Mv L ρ h ρ' h')(y:Mv L ρ' h' ρ'' h''):Mv L ρ h ρ'' h'':=by
 haveI r:=λb o e=>x.Ad (b:=b) (o:=o) F e;refine aT x.Ab λt j s=>?_;subst j;refine aT y.Ab λu k z=>?_;subst k;haveI key:∀b o,h.get? b=some o->b≠L->(∀p∈ρ,b≠p.1/\b≠p.2)->(∀p∈ρ++t,b≠p.1/\b≠p.2):=λb o e _ g p c=>by
  rcases Zd.mp c with c|c
  ·exact g p c
  ·haveI:=s p c;exact⟨λq=>by rw [q,this.1] at e;injection e,λq=>by rw [q,this.2] at e;injection e⟩
 refine⟨λb o e i g=>?_,t++u,by simp,λp c=>?_⟩
 ·have f:=key b o e i g;rcases x.kp b o e i g with l|⟨v,A,l⟩
  ·exact y.kp b o l i f
  ·rcases y.kp b _ l i f with d|⟨_,n,d⟩
   ·exact .inr ⟨v,A,d⟩
   ·exact .inr ⟨v,n,d⟩
 ·rcases Zd.mp c with c|c
  ·exact s p c
  ·refine aP (z p c) λa b=>⟨?_,?_⟩
   ·cases q:h.get? p.1 with
    |none=>rfl
    |some o=>haveI:=r _ _ q;rw [a] at this;injection this
   ·cases q:h.get? p.2 with
    |none=>rfl
    |some o=>haveI:=r _ _ q;rw [b] at this;injection this
theorem Mv.Ac(x:Mv L ρ h ρ' h')(b:h.get? a=some o)(c:a≠L)(d:∀p∈ρ,a≠p.1/\a≠p.2)(f:∀es ep,o.data≠.dict es ep):h'.get? a=some o:=by
 rcases x.kp a o b c d with e|⟨⟨es,ep,q⟩,_⟩
 ·exact e
 ·exact absurd q<|f _ _
theorem zW(n:h.Ns L m)(c:h.get? a=some o)(d:∀es ep,o.data≠.dict es ep):a≠L:=λq=>by
 refine kf n λo' es ep e f _=>?_;clear n;rw [q,e] at c;haveI b:=Qb c;subst b;exact d _ _ f
structure Mp(ρ:List (Addr×Addr))(h:Heap)(ρ':List (Addr×Addr))(h':Heap):Prop where
 tu:∀{a vs},h.IsTuple a vs->h'.IsTuple a vs
 rn:∀{a n t x y},IsRange h a 0 n 1 t x y->IsRange h' a 0 n 1 t x y
 rf:∀{i:Nat} {p},ρ[i]?=some p->ρ'[i]?=some p
theorem VR.Aw(M:Mp ρ h ρ' h')(r:VR J ρ h v d):VR J ρ' h' v d:=
 @VR.rec J ρ h (λv d _=>VR J ρ' h' v d) (λvs l _=>bN J ρ' h' vs l) .Ai .Aj .Ac .Am .Af (λc _ r=>.Ax (M.tu c) r) (λc=>.Av<|M.rn c) (λe=>.An<|M.rf e) .As .Ad (λ_ _ a b=>.Ab a b) v d r
@[elab_as_elim] theorem bN.Ae{P:List Value->List V->Prop}(r:bN J ρ h d l)(n:P [] [])(c:∀{v x vs l},VR J ρ h v x->bN J ρ h vs l->P vs l->P (v::vs) (x::l)):P d l:=
 @bN.rec J ρ h (λ_ _ _=>True) (λd l _=>P d l) trivial (λ_=>trivial) (λ_ _=>trivial) (λ_ _=>trivial) (λ_ _=>trivial) (λ_ _ _=>trivial) (λ_=>trivial) (λ_=>trivial) trivial n (λa b _ r=>c a b r) d l r
theorem bN.An(M:Mp ρ h ρ' h'){v:List Value}(r:bN J ρ h v d):bN J ρ' h' v d:=bN.Ae r .Ad λa _ b=>.Ab (a.Aw M) b
theorem nh.Ag(M:Mp ρ h ρ' h')(r:nh J ρ h v d):nh J ρ' h' v d:=
 @nh.rec J ρ h (λv d _=>nh J ρ' h' v d) .Ab (λe a _ r=>.Aa e (a.Aw M) r) v d r
theorem gw.Am(M:Mp ρ h ρ' h')(r:gw J ρ h v d):gw J ρ' h' v d:=
 @gw.rec J ρ h (λv d _=>gw J ρ' h' v d) .Ae (λa _ r=>.Ac (a.Aw M) r) v d r
theorem fC.Ad(M:Mp ρ h ρ' h')(r:fC U w J Y ρ h p o)(i:∀o,h.get? p.1=some o->h'.get? p.1=some o)(j:∀o,h.get? p.2=some o->h'.get? p.2=some o):fC U w J Y ρ' h' p o:=by
 cases o with
 |A l=>refine aP r λe b=>?_;clear r;refine cM b λvs k a d=>?_;clear b;exact⟨e,qc vs k (i _ a)<|d.An M⟩
 |B l ep=>refine aP r λe f=>?_;clear r;refine dN f λkvs n g q d=>?_;clear f;refine cM g λo es a z=>?_;clear g;exact⟨e,qe kvs n (qc o es (i _ a) z) q<|d.Am M⟩
 |D l=>refine aP r λe a=>?_;clear r;exact⟨e,i _ a⟩
 |C c fs=>refine acv r λC s es k t a u v x y d=>?_;clear r;exact ahj C s es k t (i _ a) u v x (j _ y)<|d.Ag M
theorem abl{d:Data}(a:d=.seq vs k):∀es ep,d≠.dict es ep:=λ_ _ e=>by rw [a] at e;injection e
theorem tK(S:Sr U w J Y hz.toHeap ρ H h)(n:h.Ns L m)(x:Mv L ρ h ρ' h'):Mp ρ h ρ' h':=
 ⟨λa=>eI a λo b f z=>bC z λk c=>cz o (x.Ac b (zW n b<|abl c) (S.Ae b<|.inl f)<|abl c) f ⟨k,c⟩,λa=>x.Ac a (zW n a<|λ_ _ e=>by injection e) (S.Ae a<|.inr<|.inr rfl)<|λ_ _ e=>by injection e,
  λe=>aT x.Ab λt d _=>by(refine af d<|af (Qj (Qg.mp e).1) ?_);exact e⟩
theorem VR.Ab(S:Sr U w J Y hz.toHeap ρ H h)(n:h.Ns L m)(x:Mv L ρ h ρ' h')(r:VR J ρ h v d):VR J ρ' h' v d:=r.Aw<|tK S n x
theorem bN.Ac(S:Sr U w J Y hz.toHeap ρ H h)(n:h.Ns L m)(x:Mv L ρ h ρ' h')(r:bN J ρ h v d):bN J ρ' h' v d:=r.An<|tK S n x
theorem nh.Ae(S:Sr U w J Y hz.toHeap ρ H h)(n:h.Ns L m)(x:Mv L ρ h ρ' h')(r:nh J ρ h v d):nh J ρ' h' v d:=r.Ag<|tK S n x
theorem gw.Ai(S:Sr U w J Y hz.toHeap ρ H h)(n:h.Ns L m)(x:Mv L ρ h ρ' h')(r:gw J ρ h v d):gw J ρ' h' v d:=r.Am<|tK S n x
theorem fC.Ab(S:Sr U w J Y hz.toHeap ρ H h)(n:h.Ns L m)(x:Mv L ρ h ρ' h')(r:fC U w J Y ρ h p o)
 (a:∀o,h.get? p.1=some o->h'.get? p.1=some o)(b:∀o,h.get? p.2=some o->h'.get? p.2=some o):fC U w J Y ρ' h' p o:=r.Ad (tK S n x) a b
theorem FS.Af(F:FS U w J Y hz L m ρ H h)(k:∀b o,h.get? b=some o->h'.get? b=some o):FS U w J Y hz L m ρ H h'/\Mv L ρ h ρ h':=by
 have M:Mv L ρ h ρ h':=⟨λb o e _ _=>.inl<|k _ _ e,[],by simp,by simp⟩;exact⟨⟨⟨λb o e=>k _ _<|F.st.Aa b o e,F.st.Ab,λi o p d g=>(F.st.Ac i o p d g).Ab F.st F.ns M (λ_=>k _ _)<|λ_=>k _ _,F.st.inj,F.st.Ad⟩,F.ns.keeps k,F.nL,F.Aa,λf j=>let ⟨a,b,⟨o,l,x⟩,c⟩:=F.Ac f j;⟨a,b,bv o (k _ _ l) x,c⟩⟩,M⟩
theorem FS.Ar(F:FS U w J Y hz L m ρ H h){p:Addr×Addr}(n:ρ[i]?=some p)(D:h'.Ns L m)(k:∀b o,b≠p.1->b≠p.2->b≠L->h.get? b=some o->h'.get? b=some o)
 (r:Mv L ρ h ρ h'->fC U w J Y ρ h' p o'):FS U w J Y hz L m ρ (H.set i o') h'/\Mv L ρ h ρ h':=by
 haveI s:=bw n;have M:Mv L ρ h ρ h':=⟨λb o e E B=>.inl<|k b o (B p s).1 (B p s).2 E e,[],by simp,by simp⟩;haveI g:∀b o,hz.get? b=some o->b≠p.1/\b≠p.2/\b≠L:=λb o e=>by
  have:=F.st.Ad p s;exact⟨λq=>by rw [q,this.1] at e;injection e,λq=>by rw [q,this.2] at e;injection e,λq=>by rw [q,F.Ah] at e;injection e⟩
 refine⟨⟨⟨λb o e=>k b o (g b o e).1 (g b o e).2.1 (g b o e).2.2<|F.st.Aa b o e,by(exact af F.st.Ab<|af Qo rfl),λj o q t l=>?_,F.st.inj,F.st.Ad⟩,D,F.nL,F.Aa,λf G=>let ⟨a,b,⟨o,I,x⟩,c⟩:=F.Ac f G;⟨a,b,bv o (k _ _ (c p s).1 (c p s).2 a I) x,c⟩⟩,M⟩
 by_cases u:j=i
 ·subst u;rw [n] at l;haveI y:=Qb l;subst y;haveI K:j<H.length:=by exact cI F.st.Ab<|(Qg.mp n).1
  rw [QX K] at t;haveI A:=Qb t;subst A;exact r M
 ·rw [QA<|Ne.symm u] at t;haveI R:=F.st.Ac j o q t l;have v:∀z,(z=q.1∨z=q.2)->z≠p.1/\z≠p.2:=λz d=>by
   refine⟨λe=>u<|F.st.inj j i q p l n ?_,λe=>u<|F.st.inj j i q p l n ?_⟩
   ·subst e;rcases d with d|d<;>simp [←d]
   ·subst e;rcases d with d|d<;>simp [←d]
  haveI C:=F.nL q<|bw l;exact R.Ab F.st F.ns M (λo e=>k _ _ (v _<|.inl rfl).1 (v _<|.inl rfl).2 C.1 e)<|λo e=>k _ _ (v _<|.inr rfl).1 (v _<|.inr rfl).2 C.2 e
noncomputable def lV(hz:Heap)(L:Addr)(h:Heap):List (Addr×Obj):=(List.range h.objs.size).filterMap λb=>if b≠L/\hz.get? b=none then(h.get? b).map (b,·) else none
theorem ny:(b,o)∈lV hz.toHeap L h↔h.get? b=some o/\b≠L/\hz.get? b=none:=by
 unfold lV;rw [List.mem_filterMap];constructor
 ·rintro ⟨x,_,a⟩
  split at a
  ·rename_i q
   refine aT (Zw.mp a) λo' c e=>?_;injection e with z21 z22;subst z21;subst z22;exact⟨c,q⟩
  ·exact ar a
 ·rintro ⟨e,q⟩
  exact bv b (List.mem_range.mpr<|QP e) (by(refine af (Qh q)<|af e ?_);rfl)
theorem rT(e:h.get? b=some o)(q:b≠L)(z:hz.get? b=none):
 ∃f d,lV hz.toHeap L h=f++(b,o)::d/\(∀p∈f,p.1≠b)/\(∀p∈d,p.1≠b):=by
 haveI g:((lV hz.toHeap L h).map (·.1)).Nodup:=by
  unfold lV;refine af List.map_filterMap ?_;haveI t:(List.range h.objs.size).Nodup:=List.nodup_range;refine List.Pairwise.filterMap _ ?_ t;intro x y k a i c u;haveI key:∀x a,(Option.map (λp:Addr×Obj=>p.1)<|if x≠L/\hz.get? x=none then(h.get? x).map (x,·) else none)=some a->a=x:=by
   intro x a i
   split at i
   ·refine aT (Zw.mp i) λp j l=>?_;subst l;refine aT (Zw.mp j) λo _ n=>?_;subst n;rfl
   ·exact ar i
  exact af (key x a i)<|af (key y c u) k
 refine ip (List.append_of_mem (ny.mpr ⟨e,q,z⟩:(b,o)∈lV hz.toHeap L h)) λf d r=>qc f d r ?_;rw [r,ZL,Zu,List.nodup_append] at g;refine gx g λ_ s v=>?_;clear g;rw [List.nodup_cons] at s;refine⟨λp j e=>?_,λp j e=>?_⟩
 ·exact v p.1 (List.mem_map_of_mem j) b (by simp) e
 ·exact s.1<|Zz.mpr<|bv p j e
theorem FS.fr(F:FS U w J Y hz L m ρ H h):Fr hz.toHeap L h m:=⟨F.ns,F.st.Aa,F.Aa⟩
theorem uR:News hz.toHeap L h (lV hz.toHeap L h):=λp a=>ny.mp a
theorem FS.Am(F:FS U w J Y hz L m ρ H h){o':O}(k:∀b o,h.get? b=some o->h'.get? b=some o)(u:h.get? p.1=none)(v:h.get? p.2=none)
 (r:Mv L ρ h (ρ++[p]) h'->fC U w J Y (ρ++[p]) h' p o'):FS U w J Y hz L m (ρ++[p]) (H++[o']) h'/\Mv L ρ h (ρ++[p]) h':=by
 have M:Mv L ρ h (ρ++[p]) h':=⟨λb o e _ _=>.inl<|k _ _ e,[p],rfl,λq d=>by exact af (QM.mp d)<|⟨u,v⟩⟩;have y:∀q∈ρ,(q.1≠p.1/\q.1≠p.2)/\(q.2≠p.1/\q.2≠p.2):=λq d=>by
  refine dN (F.st.at d) λ_ _ _ _ hr=>aP hr.Aa λA B=>aT A λo1 N _=>?_;clear A;refine aT B λo2 P _=>?_;clear B;exact⟨⟨λe=>by rw [e,u] at N;injection N,λe=>by rw [e,v] at N;injection N⟩,⟨λe=>by rw [e,u] at P;injection P,λe=>by rw [e,v] at P;injection P⟩⟩
 have hL:h.get? L≠none:=by refine oq F.ns λo _ _ l _=>af l ?_;nofun
 refine⟨⟨⟨λb o e=>k _ _<|F.st.Aa b o e,by simp [F.st.Ab],λj o q Q C=>?_,λi j a b n ej e=>?_,λq d=>?_⟩,F.ns.keeps k,λq d=>?_,F.Aa,λf hf=>?_⟩,M⟩
 ·by_cases D:j<ρ.length
  ·rw [Qj D] at C;rw [Qj<|by exact cI F.st.Ab D] at Q;exact(F.st.Ac j o q Q C).Ab F.st F.ns M (λ_=>k _ _)<|λ_=>k _ _
  ·have s:j<ρ.length+1:=by haveI:=(Qg.mp C).1;simpa using this
   haveI t:j=ρ.length:=atl D s;subst t;rw [QE<|Qd _,Nat.sub_self] at C;rw [QE<|by exact af F.st.Ab<|Qd _,F.st.Ab,Nat.sub_self] at Q;haveI R:=Qb Q;subst R;haveI W:=Qb C;subst W;exact r M
 ·have g:∀(i:Nat) (a:Addr×Addr),(ρ++[p])[i]?=some a->(i<ρ.length/\ρ[i]?=some a)∨(i=ρ.length/\a=p):=λi a n=>by
   by_cases E:i<ρ.length
   ·rw [Qj E] at n;exact .inl ⟨E,n⟩
   ·have s:i<ρ.length+1:=by haveI:=(Qg.mp n).1;simpa using this
    haveI t:i=ρ.length:=atl E s;subst t;rw [QE<|Qd _,Nat.sub_self] at n;haveI Z:=Qb n;subst Z;exact .inr ⟨rfl,rfl⟩
  rcases g i a n with ⟨_,fi⟩|⟨E,rfl⟩<;>rcases g j b ej with ⟨_,fj⟩|⟨D,rfl⟩
  ·exact F.st.inj i j a b fi fj e
  ·exfalso
   refine gx (y a<|bw fi) λG a3 a4=>?_;refine aP G λa1 a2=>?_;clear G;rcases e with e|e|e|e<;>contradiction
  ·exfalso
   refine gx (y b<|bw fj) λI a3 a4=>?_;refine aP I λa1 a2=>?_;clear I;rcases e with e|e|e|e
   ·exact a1 e.symm
   ·exact a3 e.symm
   ·exact a2 e.symm
   ·exact a4 e.symm
  ·exact af E<|af D rfl
 ·rcases Zd.mp d with d|d
  ·exact F.st.Ad q d
  ·refine af (QM.mp d)<|⟨?_,?_⟩
   ·cases z:hz.get? p.1 with
    |none=>rfl
    |some o=>have:=F.st.Aa _ _ z;rw [u] at this;injection this
   ·cases z:hz.get? p.2 with
    |none=>rfl
    |some o=>have:=F.st.Aa _ _ z;rw [v] at this;injection this
 ·rcases Zd.mp d with d|d
  ·exact F.nL q d
  ·exact af (QM.mp d)<|⟨λe=>hL<|by refine cI e ?_;exact u,λe=>hL<|by refine cI e ?_;exact v⟩
 ·refine gF (F.Ac f hf) λa b K c=>?_;refine aT K λo l x=>?_;clear K;refine⟨a,b,bv o (k _ _ l) x,λq d=>?_⟩;rcases Zd.mp d with d|d
  ·exact c q d
  ·exact af (QM.mp d)<|⟨λe=>by rw [e,u] at l;injection l,λe=>by rw [e,v] at l;injection l⟩
theorem FS.Ai(F:FS U w J Y hz L m ρ H h)(g:h'.Ns L j)(hs:Heap.SameBut L h h'):FS U w J Y hz L j ρ H h'/\Mv L ρ h ρ h':=by
 have M:Mv L ρ h ρ h':=⟨λb o e k _=>.inl<|(hs.2 b k).trans e,[],by simp,by simp⟩;refine⟨⟨⟨λb o e=>(hs.2 b λq=>?_).trans<|F.st.Aa b o e,F.st.Ab,λi o p l d=>?_,F.st.inj,F.st.Ad⟩,g,F.nL,F.Aa,λf n=>let ⟨a,b,⟨o,r,x⟩,c⟩:=F.Ac f n;⟨a,b,bv o ((hs.2 _ a).trans r) x,c⟩⟩,M⟩
 ·rw [q,F.Ah] at e;exact ar e
 ·have:=F.nL p<|bw d;exact(F.st.Ac i o p l d).Ab F.st F.ns M (λo e=>(hs.2 _ this.1).trans e)<|λo e=>(hs.2 _ this.2).trans e
end
end
section
noncomputable def ng:List String:=Builtin.Bytes.decodersThatHold++["bytearray.__contains__","bytearray.__mod__","bytearray.__rmod__","_struct.pack_into.held","bytearray.find.held"]
noncomputable def okC:Code->Bool
 | .builtin id _=>!(ng.contains id)
 |_=>true
def Cl(l:List (Code×Pos)):Prop:=∀x∈l,okC x.1=true
def dz(M:Model)(A:Around)(t:Sem α)(Q:α->Shared->Prop)(E:Value->Shared->Prop)(s:Shared):Prop:=
 ∀b p,b.In A->okC b.code=true->Cl b.below->Sem.wp M b t (λa _ c=>Q a c) (λe _ c=>E e c) p s
def gE(M:Model)(A:Around)(c:Code)(R:Result->Shared->Prop)(s:Shared):Prop:=
 ∀a p,a.code=c->a.Below A->Cl a.below->wpCode M a R p s
section
variable {α β:Type} {M:Model} {A:Around} {E:Value->Shared->Prop} {s:Shared}
theorem jt(h:wpAny M A t Q E s):dz M A t Q E s:=λa p b _ _=>h a p b
theorem acI(h:codeAny M A c R s):gE M A c R s:=λa p b d _=>h a p b d
theorem aO(h:Q a s):dz M A (pure a) Q E s:=λ_ _ _ _ _=>h
theorem dg(h:dz M A t Q E s)(c:∀a s,Q a s->d a s)(f:∀e s,E e s->g e s):dz M A t d g s:=
 λb p i j k=>Sem.wp_mono M b t (λa _ s=>c a s) (λe _ s=>f e s) p s<|h b p i j k
theorem aC(h:dz M A m (λa c=>dz M A (f a) Q E c) E s):dz M A (m>>= f) Q E s:=λb p d e g=>by
 exact af (Sem.wp_bind' ..)<|Sem.wp_mono M b m (λa i c h'=>h' b i d e g) (λ_ _ _ h'=>h') p s<|h b p d e g
theorem aL(h:wpAny M A m (λa b=>dz M A (f a) Q E b) E s):dz M A (m>>= f) Q E s:=aC<|jt h
theorem dQ(h:dz M A m Q (λe c=>dz M A (k e) (λ_ a=>E e a) E c) s):dz M A (m.onRaise k) Q E s:=λb p d f g=>by
 exact af (Sem.wp_onRaise ..)<|Sem.wp_mono M b m (λ_ _ _ h'=>h') (λe i c h'=>h' b i d f g) p s<|h b p d f g
theorem oK{Q:Except Value α->Shared->Prop}(h:dz M A m (λa=>Q<|.ok a) (λe=>Q<|.error e) s):dz M A m.attempt Q E s:=λb p c d f=>by
 exact af (Sem.wp_attempt ..)<|h b p c d f
theorem bA(h:dz M A m Q E s):dz M A (holding vs m) Q E s:=λa p b c d=>by
 exact af (Sem.wp_holding ..)<|h a p b c d
theorem adc(h:dz M A m Q E s):dz M A (m.keep vs) Q E s:=λa p b c d=>by
 exact af (Sem.wp_keep ..)<|h a p b c d
theorem oG(h:dz M A m Q E s):dz M A (operate vs m) Q E s:=λa p b c d=>by
 exact af (Sem.wp_operate ..)<|h a p b c d
theorem abx[Decidable c](h:if c then dz M A a Q E s else dz M A b Q E s):dz M A (if c then a else b) Q E s:=by split<;>simp_all
theorem lT{_:Decidable c}(n:¬c)(h:dz M A b Q E s):dz M A (if c then a else b) Q E s:=abx (by exact af (Qe n) h)
theorem afS{_:Decidable c}(n:c)(h:dz M A a Q E s):dz M A (if c then a else b) Q E s:=abx (by exact af (Qh n) h)
theorem gK{_:Decidable c}(n:¬c)(h:wpAny M A b Q E s):wpAny M A (if c then a else b) Q E s:=wpAny_ite (by exact af (Qe n) h)
theorem pK{_:Decidable c}(n:c)(h:wpAny M A a Q E s):wpAny M A (if c then a else b) Q E s:=wpAny_ite (by exact af (Qh n) h)
theorem cg(h:Q () s):dz M A (standAt pos) Q E s:=λ_ _ _ _ _=>h
theorem tH(h:Q () s):dz M A point Q E s:=λ_ _ _ _ _=>h
theorem wA(h:Q () s):dz M A (rule a) Q E s:=λ_ _ _ _ _=>h
theorem Cl.Aa(h:okC c=true)(b:Cl l):Cl ((c,p)::l):=λx a=>by
 rcases Qz.mp a with rfl|a
 ·exact h
 ·exact b x a
theorem abm(d:gE M (A.mark h) c (λr b=>match r with| .ok f=>Q f b| .error e=>E e b) s)(a:h≠some byPass:=by intro x;cases x):
 dz M A (run c h) Q E s:=λk p g i j=>by exact af (Sem.wp_run ..)<|d _ p rfl (g.enter c h p a)<|Cl.Aa i j
theorem rU(b:gE M A c (λr a=>match r with| .ok (.ret v)=>Q v a| .ok _=>False| .error e=>E e a) s):
 dz M A (runValue c) Q E s:=λh p d f g=>by exact af (Sem.wp_runValue ..)<|b _ p rfl (d.enter c none p<|by intro x;exact ar x)<|Cl.Aa f g
theorem kn(b:gE M A (.call f ⟨pos,c⟩) (λr a=>match r with| .ok (.ret v)=>Q v a| .ok _=>False| .error e=>E e a) s):
 dz M A (call f pos c) Q E s:=rU b
theorem wz(h:gE M A c R s)(a:∀r s,R r s->R' r s):gE M A c R' s:=λb p d e f=>wpCode_mono a<|h b p d e f
theorem bW(g:okC c=true)
 (h:dz M (A.under c) (M.den c) (λa b=>match a with| .done f=>R (.ok f) b| .again c'=>c'.quiet=true/\gE M A c' R b) (λe b=>R (.error e) b) s):gE M A c R s:=λi p j d k=>by
 rw [wpCode_iff_wp,j];refine Sem.wp_mono M i _ (λa l b h'=>?_) (λ_ _ _ h'=>h') p s<|h i p (j ▸d.in) (j ▸g) k
 cases a with
 |done f=>exact h'
 |again c'=>exact⟨h'.1,h'.2 (i.goto c') l rfl (d.goto c') k⟩
theorem zR(h:∀st,Cl st->Q st s):dz M A stack Q E s:=λc p d a b=>by
 exact h _<|Cl.Aa a b
theorem mZ(h:dz M A (spliced<|(false,x)::rest) (λvs a=>Q ⟨vs,[]⟩ a) E s):dz M A (evalArgs f true ((false,x)::rest) []) Q E s:=by
 refine aC<|dg h (λvs a h'=>?_) λ_ _ x=>x;exact bA<|aC<|aO<|aC<|aO<|aO h'
theorem mY{P:Heap->Prop}(d:args.any (·.1)=false)
 (j:∀h,P h->∃k,(k=Keeper.frame∨k=Keeper.machine∨k=Keeper.boundFrame)/\Looks M h (keeperOf f) k)
 (h:dz M A (evalArgs f true args []) (λa b=>P b.heap/\dz M A (call f (first++a.pos) a.kw) Q E b) E s):dz M A (callWith pos f first args []) Q E s:=by
 refine aC<|bA<|dg h (λa b c=>aC<|cg ?_) λ_ _ x=>x;refine aT (j _ c.1) λk g L=>?_;haveI l:(args.any (·.1)||([]:List (Option Str×Sem Value)).any (·.1.isNone))=false:=by exact af d rfl
 rw [l];refine aL<|L.here ?_;have tail:∀{t:Sem Value},dz M A t Q E b->dz M A (t>>= λr=>holding [r] point>>= λ_=>pure r) Q E b:=
  λm=>aC<|dg m (λr i n=>aC<|bA<|tH<|aO n) λ_ _ x=>x
 haveI e (o:Value):dz M A (callMarked o f (first++a.pos) a.kw) Q E b:=by unfold callMarked;exact adc c.2
 rcases g with rfl|rfl|rfl<;>dsimp only<;>first|exact tail c.2|(split<;>first|exact tail c.2|exact tail<|e _)
end
section
variable {U:Program} {w:World} {A:Around} {E:Value->Shared->Prop} {s:Shared} {env:Env}
theorem uS(d:a.length<=15)
 (h:dz (model U w) A (evalPairs a) (λvs b=>dz (model U w) A (storeAll s.heap.objs.size vs) (λ_ c=>Q s.heap.objs.size c) E b) E {s with heap:=s.heap.push {cls:=.type "dict",data:=.dict #[]}}):
 dz (model U w) A (subDict a) Q E s:=by
 refine aL<|wpAny_alloc ?_;refine aC<|bA ?_;refine af (Qh d)<|aC<|dg h (λvs b f=>?_) λ_ _ e=>e;exact bA<|aC<|dg f (λ_ c g=>aO<|aO g) λ_ _ e=>e
theorem acE(c:b.all (·.isSome)=true)(m:b.length=a.length)(n:b≠[])(d:b.length<=15)
 (h:dz (model U w) A (evalPairs<|pairTrees b a env pos) (λvs f=>dz (model U w) A (storeAll s.heap.objs.size vs) (λ_ g=>Q (.ref s.heap.objs.size) g) E f) E
  {s with heap:=s.heap.push {cls:=.type "dict",data:=.dict #[]}}):dz (model U w) A (eval (.Dict b a pos) env) Q E s:=by
 haveI k:=pairTrees_length b a env pos c m;haveI l:pairTrees b a env pos≠[]:=by
  intro o;rw [o] at k;exact n<|List.length_eq_zero_iff.mp k.symm
 refine af (arm_eval_Dict ..)<|af (zip_pairTrees b a env pos c m ..)<|af (dictDisplay_pairs _ l (by rw [k];exact eJ d) ..)<|aC<|cg<|aC<|uS (by refine af k ?_;exact d) ?_;exact dg h (λvs f i=>dg i (λ_ g j=>aO j) λ_ _ e=>e) λ_ _ e=>e
end
end
section
section
variable (U:Program) (w:World) (J:Nat->Value) (Y:Str->Option Addr) (hz:B0) (L:Addr) (m:Str->Option Value) (A:Around) (N:Heap->Heap->Addr->Str->Str->Prop)
def ms(ρ:List (Addr×Addr))(s:Shared)(R:List (Addr×Addr)->Heap->α->β->Prop)(r:bJ β)(Q:α->Shared->Prop)(E:Value->Shared->Prop):Prop:=
 match r with
 | .ok b H'=>∀ρ' h' tk a,FS U w J Y hz L m ρ' H' h'->Mv L ρ s.heap ρ' h'->R ρ' h' a b->Q a {s with heap:=h',toks:=tk}
 | .Ac k x H'=>∀ρ' c h' tk e,FS U w J Y hz L m ρ' H' c->Mv L ρ s.heap ρ' c->(∀p∈ρ',e≠p.1/\e≠p.2)->s.heap.get? e=none->N c h' e k x->E (.ref e) {s with heap:=h',toks:=tk}
 | .Ab=>False
def ai(ρ:List (Addr×Addr))(s:Shared)(R:List (Addr×Addr)->Heap->α->β->Prop)(t:Sem α)(r:bJ β):Prop:=
 ∀Q E,ms U w J Y hz L m N ρ s R r Q E->dz (model U w) A t Q E s
end
section
variable {U:Program} {w:World} {J:Nat->Value} {Y:Str->Option Addr} {hz:B0} {h h':Heap} {ρ ρ':List (Addr×Addr)} {H H':Hp} {L:Addr} {m:Str->Option Value} {A:Around} {N:Heap->Heap->Addr->Str->Str->Prop}
 {α β γ δ:Type} {s:Shared} {R:List (Addr×Addr)->Heap->α->β->Prop} {R':List (Addr×Addr)->Heap->γ->δ->Prop}
theorem ms.Aa(Z:FS U w J Y hz L m ρ' H' h')(M:Mv L ρ s.heap ρ' h')(e:ms U w J Y hz L m N ρ s R r Q E):
 ms U w J Y hz L m N ρ' {s with heap:=h',toks:=tk} R r Q E:=by
 cases r with
 |ok b H1=>exact λc f d a g i l=>e c f d a g (Mv.Aa Z M i) l
 |Ac k x H1=>
  intro c n f d j g i p t u;refine e c n f d j g (Mv.Aa Z M i) p ?_ u
  cases q:s.heap.get? j with
  |none=>rfl
  |some o=>
   haveI:=M.Ad Z q;rw [show h'.get? j=none from t] at this;injection this
 |Ab=>exact e
theorem ai.Aa:ai U w J Y hz L m A N ρ s R t .Ab:=λ_ _ e=>e.elim
theorem ai.Ah(c:ai U w J Y hz L m A N ρ s R t r)
 (n:∀b H',r=.ok b H'->∀ρ' h' tk a,FS U w J Y hz L m ρ' H' h'->Mv L ρ s.heap ρ' h'->R ρ' h' a b->ai U w J Y hz L m A N ρ' {s with heap:=h',toks:=tk} R' (f a) (g b H')):
 ai U w J Y hz L m A N ρ s R' (t>>= f) (r.Aa g):=λQ E e=>by
 refine aC<|c _ _ ?_
 cases r with
 |ok b H1=>exact λd c i a j l o=>n b H1 rfl d c i a j l o Q E<|ms.Aa j l e
 |Ac k x H1=>exact e
 |Ab=>exact e
theorem ai.Ai(Z:FS U w J Y hz L m ρ H s.heap)(r:R ρ s.heap a b):ai U w J Y hz L m A N ρ s R (pure a) (.ok b H):=
 λ_ _ e=>aO<|e ρ s.heap s.toks a Z .Ae r
theorem ai.ok(h:∀Q E,(∀ρ' h' tk a,FS U w J Y hz L m ρ' H' h'->Mv L ρ s.heap ρ' h'->R ρ' h' a b->Q a {s with heap:=h',toks:=tk})->wpAny (model U w) A t Q E s):
 ai U w J Y hz L m A N ρ s R t (.ok b H'):=λQ E e=>jt<|h Q E e
theorem ai.Ac(Z:FS U w J Y hz L m ρ H s.heap)(h:∀Q E,(∀a tk,R ρ s.heap a b->Q a {s with toks:=tk})->wpAny (model U w) A t Q E s):
 ai U w J Y hz L m A N ρ s R t (.ok b H):=λQ E e=>jt<| h Q E λa tk r=>e ρ s.heap tk a Z .Ae r
theorem ai.Ar(h:∀Q E,dz (model U w) A t Q E s->dz (model U w) A a Q E s)(g:ai U w J Y hz L m A N ρ s R t r):ai U w J Y hz L m A N ρ s R a r:=
 λQ E e=>h Q E<|g Q E e
theorem ai.Ad(g:ai U w J Y hz L m A N ρ s R t r):ai U w J Y hz L m A N ρ s R (holding vs t) r:=g.Ar λ_ _=>bA
theorem ai.Ak{R:List (Addr×Addr)->Heap->Value->β->Prop}(g:ai U w J Y hz L m A N ρ s R t r):ai U w J Y hz L m A N ρ s R (operate vs t) r:=g.Ar λ_ _=>oG
theorem ai.Af(g:ai U w J Y hz L m A N ρ s R t r):ai U w J Y hz L m A N ρ s R (standAt p>>= λ_=>t) r:=g.Ar λ_ _ h=>aC<|cg h
abbrev du(J:Nat->Value):List (Addr×Addr)->Heap->Value->V->Prop:=λρ h a b=>VR J ρ h a b
theorem bN.Aa(r:bN J ρ h vs l):vs.length=l.length:=bN.Ae r rfl λ_ _ r=>Qt (·+1) r
theorem bN.Al{i:Nat}(r:bN J ρ h vs l)(e:l[i]?=some x):∃v,vs[i]?=some v/\VR J ρ h v x:=
 bN.Ae (P:=λvs l=>∀i:Nat,l[i]?=some x->∃v,vs[i]?=some v/\VR J ρ h v x) r (λi e=>by exact ar e) (λa _ b i e=>by
  cases i with
  |zero=>haveI e:=Qb e;subst e;exact bv _ rfl a
  |succ i=>exact b i e) i e
theorem bN.Ah(a:bN J ρ h vs l)(b:bN J ρ h ws r):bN J ρ h (vs++ws) (l++r):=bN.Ae (P:=λvs l=>bN J ρ h (vs++ws)<|l++r) a b λx _ y=>.Ab x y
theorem bN.Au(r:VR J ρ h u y)(q:bN J ρ h vs l):bN J ρ h (vs.set i u) (l.set i y):=by
 exact bN.Ae (P:=λvs l=>∀i:Nat,bN J ρ h (vs.set i u)<|l.set i y) q (λ_=>.Ad) (λa b c i=>by
  cases i with
  |zero=>exact .Ab r b
  |succ i=>exact .Ab a<|c i) i
theorem bN.Ao(q:bN J ρ h vs l):bN J ρ h (vs.take i) (l.take i):=by
 exact bN.Ae (P:=λvs l=>∀i:Nat,bN J ρ h (vs.take i)<|l.take i) q (λi=>by(refine af List.take_nil<|af List.take_nil ?_);exact .Ad) (λa b c i=>by
  cases i with
  |zero=>exact .Ad
  |succ i=>exact .Ab a<|c i) i
theorem bN.Am(q:bN J ρ h vs l):bN J ρ h (vs.drop i) (l.drop i):=by
 exact bN.Ae (P:=λvs l=>∀i:Nat,bN J ρ h (vs.drop i)<|l.drop i) q (λi=>by(refine af List.drop_nil<|af List.drop_nil ?_);exact .Ad) (λa b c i=>by
  cases i with
  |zero=>exact .Ab a b
  |succ i=>exact c i) i
theorem bN.Af(r:VR J ρ h u y):∀n:Nat,bN J ρ h (List.replicate n u)<|List.replicate n y
 | 0=>.Ad
 |n+1=>.Ab r<|bN.Af r n
theorem FS.at(Z:FS U w J Y hz L m ρ H h){i:Nat}(e:H[i]?=some o):∃p,ρ[i]?=some p/\fC U w J Y ρ h p o:=by
 haveI a:i<ρ.length:=by exact af Z.st.Ab<|(Qg.mp e).1
 exact bv (ρ[i]) (Qw a)<|Z.st.Ac i o _ e<|Qw a
theorem VR.Au(r:VR J ρ h v (.B i))(e:ρ[i]?=some p):v=.ref p.1:=by
 refine VR.Ar r λ_ a=>?_
 ·rw [e] at a;haveI b:=Qb a;subst b;rfl
theorem VR.at(Z:FS U w J Y hz L m ρ H h){v:Value}(r:VR J ρ h v (.B i))(e:H[i]?=some o):∃p,v=.ref p.1/\ρ[i]?=some p/\fC U w J Y ρ h p o:=by
 exact aT (Z.at e) λp a R=>cz p (r.Au a) a R
theorem ai.Au(Z:FS U w J Y hz L m ρ H s.heap)(h:∀o,H[i]?=some o->ai U w J Y hz L m A N ρ s R t (f o H)):
 ai U w J Y hz L m A N ρ s R t (AM.Aa (bX i) f H):=by
 unfold AM.Aa Mine.bX
 cases e:H[i]? with
 |none=>exact ai.Aa
 |some o=>exact h o e
theorem ai.Aj{t:Value->Sem α}(Z:FS U w J Y hz L m ρ H s.heap)(b:VR J ρ s.heap u (.B i))(h:∀o p,H[i]?=some o->ρ[i]?=some p->fC U w J Y ρ s.heap p o->ai U w J Y hz L m A N ρ s R (t<|.ref p.1) (f o H)):
 ai U w J Y hz L m A N ρ s R (t u) (AM.Aa (Mine.bX i) f H):=
 ai.Au Z λo a=>eI (b.at Z a) λp e c r=>e ▸h o p a c r
theorem ai.Am{t:List Value->Sem α}(d:bN J ρ s.heap c args)(k:∀u v,VR J ρ s.heap u v->ai U w J Y hz L m A N ρ s R (t [u]) (f v H)):
 ai U w J Y hz L m A N ρ s R (t c) (sC AM.Ac f args H):=by
 cases args with
 |nil=>exact ai.Aa
 |cons v r=>
  cases r with
  |nil=>exact bN.Ag d λu c a b=>bN.Ai b<|k u v a
  |cons _ _=>exact ai.Aa
theorem ai.Ag(h:∀x,o=some x->ai U w J Y hz L m A N ρ s R t (f x H)):ai U w J Y hz L m A N ρ s R t (cs o f H):=by
 cases o with
 |none=>exact ai.Aa
 |some x=>exact h x rfl
theorem ai.Ab{_:Decidable p}(h:p->ai U w J Y hz L m A N ρ s R t (f H)):ai U w J Y hz L m A N ρ s R t (be p f H):=by
 unfold be
 by_cases q:p
 ·exact af (Qh q)<|h q
 ·exact af (Qe q) ai.Aa
theorem wS{a b:Int}(Z:FS U w J Y hz L m ρ H s.heap):
 ai U w J Y hz L m A N ρ s (du J) (binaryOp op (.int a t)<|.int b u) (aaW op a b H):=by
 cases op with
 |Add=>exact ai.Ac Z λQ E e=>P.add_int<|e _ _<|.Ac _ _
 |Sub=>exact ai.Ac Z λQ E e=>P.sub_int<|e _ _<|.Ac _ _
 |Mult=>exact ai.Ab λc=>ai.Ac Z λQ E e=>PyProof.Rows.mul_int (e _ _<|.Ac _ _) c
 |Mod=>
  exact ai.Ab λc=>ai.Ac Z λQ E e=>mod_int' (Int.ne_of_gt c)<|af (Int.fmod_eq_emod_of_nonneg _<|Int.le_of_lt c)<|e _ _<|.Ac _ _
 |Pow=>
  refine ai.Ab λc=>gx c λf g j=>?_;clear c;subst f;have i:Builtin.Int.intBits (2:Int)=2:=dd;exact ai.Ac Z λQ E e=>PyProof.Rows.pow_int g (by refine af i ?_;lia)<|e _ _<|.Ac _ _
 |LShift=>exact ai.Ab λc=>ai.Ac Z λQ E e=>PyProof.Rows.lshift_int c.1 (by lia)<|e _ _<|.Ac _ _
 |RShift=>
  exact ai.Ab λc=>ai.Ac Z λQ E e=>PyProof.Rows.rshift_int c<|af (Int.fdiv_eq_ediv_of_nonneg _<|Int.le_of_lt<|Int.pow_pos dd)<|e _ _<|.Ac _ _
 |BitOr=>exact ai.Ac Z λQ E e=>PyProof.Rows.or_int<|e _ _<|.Ac _ _
 |BitAnd=>exact ai.Ac Z λQ E e=>PyProof.Rows.and_int<|e _ _<|.Ac _ _
 |FloorDiv=>
  refine ai.Ab λc=>ai.Ac Z λQ E e=>PyProof.Rows.floordiv_int (Int.ne_of_gt c.1) ?_<|.inl ?_
  ·exact af (Int.fdiv_eq_ediv_of_nonneg _<|Int.le_of_lt c.1)<|e _ _<|.Ac _ _
  ·refine PyProof.noPylong_of_log2 ?_;haveI d:=c.2;unfold Builtin.Int.intBits at d
   split at d
   ·rename_i q;rw [beq_iff_eq] at q;subst q;decide
   ·exact Qr ‹_› lb
 |_=>exact ai.Aa
theorem ahm.Ab(h:Heap):h.get? h.objs.size=none:=by
 cases q:h.get? h.objs.size with
 |none=>rfl
 |some o=>exact absurd (QP q)<|Nat.lt_irrefl _
theorem FS.Ab(Z:FS U w J Y hz L m ρ H h)(p:Addr×Addr):(ρ++[p])[H.length]?=some p:=by
 refine cI (Z.st.Ab ..)<|af (QE (Qd _) ..) ?_;exact af (Nat.sub_self ..) rfl
theorem FS.Ag(Z:FS U w J Y hz L m ρ H h)(e:h.get? a=none):hz.get? a=none:=by
 cases q:hz.get? a with
 |none=>rfl
 |some o=>haveI:=Z.st.Aa _ _ q;rw [e] at this;exact ar this
theorem ai.Ap(Z:FS U w J Y hz L m ρ H s.heap)(a:ob.isFreed=false)
 (d:Mv L ρ s.heap (ρ++[(s.heap.objs.size,s.heap.objs.size)]) (s.heap.push ob)->(s.heap.push ob).get? s.heap.objs.size=some ob->fC U w J Y (ρ++[(s.heap.objs.size,s.heap.objs.size)]) (s.heap.push ob) (s.heap.objs.size,s.heap.objs.size) o')
 (f:∀Q E,(∀tk,Q (.ref s.heap.objs.size) {s with heap:=s.heap.push ob,toks:=tk})->wpAny (model U w) A t Q E s):ai U w J Y hz L m A N ρ s (du J) t (jp o' H):=by
 haveI c:=ahm.Ab s.heap;refine ai.ok λQ E e=>f Q E λtk=>aP (Z.Am (p:=(s.heap.objs.size,s.heap.objs.size)) (h':=s.heap.push ob) (o':=o') (λb o e=>Qu _ e) c c<|λM=>d M<|QI _ a) λg M=>?_;exact e _ _ tk _ g M<|VR.An (p:=(s.heap.objs.size,s.heap.objs.size))<|Z.Ab _
theorem ai.Ae(Z:FS U w J Y hz L m ρ H s.heap)(a:bN J ρ s.heap vs l)
 (b:∀Q E,(∀tk,Q (.ref s.heap.objs.size) {s with heap:=s.heap.push {cls:=.type "list",data:=.seq vs.toArray},toks:=tk})->wpAny (model U w) A t Q E s):ai U w J Y hz L m A N ρ s (du J) t (jp (.A l) H):=
 ai.Ap Z rfl (λM e=>⟨rfl,vs,0,e,a.Ac Z.st Z.ns M⟩) b
theorem aah(n:Nat):∀a:Array Value,List.foldl (λx1 b=>x1++b) a (List.replicate n [v].toArray)=a++(List.replicate n v).toArray:=by
 induction n with
 |zero=>intro a;simp
 |succ n r=>intro a;refine af (List.replicate_succ ..)<|af (List.foldl_cons ..)<|af (r ..)<|af (List.replicate_succ ..) ?_;apply Array.ext';simp
theorem dm(h:cx n):n<=sizeLine:=h
theorem afD{u v:Value}(Z:FS U w J Y hz L m ρ H s.heap)(c:VR J ρ s.heap u a)(d:VR J ρ s.heap v b):
 ai U w J Y hz L m A N ρ s (du J) (binaryOp op u v) (mq op a b H):=by
 cases a with
 |A x=>
  cases b with
  |A y=>exact VR.Aa c λ_=>VR.Aa d λ_=>wS Z
  |_=>exact ai.Aa
 |D x=>
  cases b with
  |D y=>
   refine VR.Ae c λ_=>VR.Ae d λ_=>?_
   cases op with
   |Add=>exact ai.Ab λhs=>ai.Ac Z λQ E e=>SB.add (λt' k=>e _ _<|.Am _ _)<|dm hs
   |_=>exact ai.Aa
  |_=>exact ai.Aa
 |B i=>
  cases b with
  |B j=>
   refine ai.Aj (t:=λu=>binaryOp op u v) Z c λo p B C R=>ai.Aj (t:=λv=>binaryOp op (.ref p.1) v) Z d λo' q D hq R'=>?_
   cases op with
   |Add=>
    cases o with
    |A l=>
     cases o' with
     |A l'=>
      refine aP R λ_ z=>cM z λvs n e r=>aP R' λ_ z=>cM z λws k G f=>ai.Ab λhs=>ai.Ae Z (r.Ah f) λQ E k=>P.add_list e G ?_ ?_
      ·exact af (List.append_toArray ..)<|k _
      ·exact af Zc<|af Zc<|af r.Aa<|af f.Aa hs
     |_=>exact ai.Aa
    |_=>exact ai.Aa
   |_=>exact ai.Aa
  |A m=>
   refine ai.Aj (t:=λu=>binaryOp op u v) Z c λo p B C R=>?_
   cases op with
   |Mult=>
    cases o with
    |A l=>
     cases l with
     |nil=>exact ai.Aa
     |cons x l=>
      cases l with
      |cons _ _=>exact ai.Aa
      |nil=>
       refine VR.Aa d λt=>aP R λ_ g=>?_;clear R;refine cM g λvs n e r=>?_;clear g
       cases r with
       |Ab I K=>
        cases K
        refine ai.Ab λhn=>ai.Ae Z (bN.Af I _) λQ E k=>wpAny_binaryOp_repeat_ref (T:="list") (U:="int") dd ⟨_,e,rfl⟩ (λM=>typeIs_int M _ _) noFill_list_mul F.fills_int_mul F.slot_int_rmul repeat_list F.slot_int_index.lookup<|call_meets F.slot_int_rmul (typeIs_int s _ _) F.entry_int_rmul (F.args_int_rmul_2 _ _) (int___rmul___int_list _ _ _ _ _) ⟨e,rfl,⟨_,e,rfl⟩,?_⟩;refine call_meets F.slot_list_mul ⟨_,e,rfl⟩ F.entry_list_mul (F.args_list_mul_2 _ _) (AutoListH.list___mul___list_int_3 _ _ _ _ _ (by simp [Builtin.List.listFitsIndex];omega) (by simp;omega)<|by simp [Builtin.List.listTooLong,sizeLine];omega) ⟨e,?_⟩;haveI W:=k s.toks;exact af (Qe (by simp) ..)<|af (aah ..)<|af (Array.empty_append ..) W
    |_=>exact ai.Aa
   |_=>exact ai.Aa
  |_=>exact ai.Aa
 |_=>exact ai.Aa
end
end
section
section
variable {U:Program} {w:World} {J:Nat->Value} {Y:Str->Option Addr} {hz:B0} {h h':Heap} {ρ ρ':List (Addr×Addr)} {H H':Hp} {L:Addr} {m:Str->Option Value} {A:Around} {N:Heap->Heap->Addr->Str->Str->Prop}
 {α β γ δ:Type} {s:Shared} {R:List (Addr×Addr)->Heap->α->β->Prop} {R':List (Addr×Addr)->Heap->γ->δ->Prop}
theorem bN.Ak(c:∀{u:Value} {a:V} {d:PyData},toPy n H a=some d->VR J ρ h u a->∃as,Reads h u d as)(e:cC (toPy n H) l=some ds)(r:bN J ρ h vs l):∃as,ReadsAll h vs ds as:=by
 refine bN.Ae (P:=λvs l=>∀ds,cC (toPy n H) l=some ds->∃as,ReadsAll h vs ds as) r (λds e=>by haveI f:=Qb e;subst f;exact⟨_,.nil⟩) (λa _ q ds e=>?_) ds e;exact bo e λd g e=>bm e λds b=>bC (c g a) λas r=>bC (q _ b) λj i=>⟨_,.cons r i⟩
theorem VR.Al(Z:FS U w J Y hz L m ρ H h)(n:Nat):∀{u:Value} {a:V} {d:PyData},toPy n H a=some d->VR J ρ h u a->∃as,Reads h u d as:=by
 induction n with
 |zero=>exact λe _=>ar e
 |succ n j=>
  intro u a d e r
  cases a with
  |C=>injection e with z;subst z;exact VR.Ah r ⟨_,.none⟩
  |E b=>injection e with z;subst z;exact VR.Ak r ⟨_,.bool b⟩
  |A i=>injection e with z;subst z;exact VR.Aa r λt=>⟨_,.int i t⟩
  |D i=>injection e with z;subst z;exact VR.Ae r λt=>⟨_,.str i t⟩
  |F l=>
   haveI e:(cC (toPy n H) l).map PyData.tuple=some d:=e;exact VR.Ag r λa vs v f=>bm e λds c=>eI v λo g x z=>bC z λk y=>bC (bN.Ak j c f) λas q=>⟨_,.tuple g x y q⟩
  |B i=>
   refine aih e λl B e=>bm e λds c=>aT (r.at Z B) λp z C=>aP C λ_ R=>?_;subst z;exact aP R λ_ z=>cM z λvs k g f=>bC (bN.Ak j c f) λas q=>⟨_,.list g rfl rfl q⟩
  |_=>exact ar e
theorem abC(e:eqP H a b=some r):∃d d',toPy 8 H a=some d/\toPy 8 H b=some d'/\SeqAt.shaped d=true/\SeqAt.shaped d'=true/\r=PyData.eqv d d':=by
 refine bo e λd f e=>bo e λd' c e=>?_
 by_cases q:(SeqAt.shaped d&&SeqAt.shaped d')=true
 ·rw [Qh q] at e;haveI z:=Qb e;subst z;exact aP (Qs.mp q) λg i=>ahU d d' f c g i rfl
 ·rw [Qe q] at e;exact ar e
theorem gw.Ad(r:gw J ρ h kvs l)(e:aB k l=none):valueAt kvs k=none:=by
 induction r with
 |Ae=>rfl
 | @Ac x u v es l a b c=>
  haveI e:(if x=k then some v else aB k l)=none:=e
  by_cases q:x=k
  ·rw [Qh q] at e;injection e
  ·rw [Qe q] at e;haveI:=c e;simp only [valueAt,List.find?_cons] at this ⊢;exact af (QT q) this
theorem gw.Ab(r:gw J ρ h kvs l)(e:aB k l=some y):∃v,valueAt kvs k=some v/\VR J ρ h v y:=by
 induction r with
 |Ae=>exact ar e
 | @Ac x u v es l a b d=>
  haveI e:(if x=k then some v else aB k l)=some y:=e
  by_cases q:x=k
  ·rw [Qh q] at e;haveI z:=Qb e;subst z;refine bv u ?_ a;simp [valueAt,q]
  ·rw [Qe q] at e;refine aT (d e) λv c r=>bv v ?_ r;simp only [valueAt,List.find?_cons] at c ⊢;exact af (QT q) c
theorem gw.Aa(r:gw J ρ h kvs l):kvs.length=l.length:=by
 induction r with
 |Ae=>rfl
 |Ac a b c=>exact Qt (·+1) c
theorem adk(Z:FS U w J Y hz L m ρ H s.heap)(j:A.units+64<cLine)(i:gw J ρ s.heap k r)(q:gw J ρ s.heap n l)(e:rF H r l=some b):KeqHits A s k n b:=by
 induction q generalizing b with
 |Ae=>injection e with z16;subst z16;exact .nil
 | @Ac x u v es l a _ o=>
  haveI e:((aB x r).elim (some false) λy=>(eqP H v y).bind λb=>(rF H r l).map (b&&·))=some b:=e
  cases q:aB x r with
  |none=>rw [q] at e;injection e with z;subst z;exact .miss<|i.Ad q
  |some y=>
   rw [q] at e;refine bo e λc p e=>bm e λK f=>ip (abC p) λd d' t=>acu t λB g s1 C z=>?_;subst z;exact aT (i.Ab q) λv D E=>bC (a.Al Z 8 B) λas F=>bC (E.Al Z 8 g) λG I=>
    .hit D (SeqAt.eqAt_reads _ _ A s _ _ as G F I (SeqAt.canLay_of_shaped s1) (SeqAt.canLay_of_shaped C)<|SeqAt.room_of_shaped s1 j) (o f)
theorem FS.Ad(Z:FS U w J Y hz L m ρ H h)(a:(hz.get? sysModules).isSome=true)(b:p∈ρ):(p.1 ==sysModules)=false:=by
 cases q:p.1 ==sysModules with
 |false=>rfl
 |true=>
  haveI e:p.1=sysModules:=eq_of_beq q;haveI:=(Z.st.Ad p b).1;rw [e] at this;rw [this] at a;injection a
theorem dU(Z:FS U w J Y hz L m ρ H s.heap)(f:(hz.get? sysModules).isSome=true)(C:A.units+80<cLine)(D:VR J ρ s.heap u a)(F:VR J ρ s.heap v b)(e:eqD H a b=some r)(Q:Value->Shared->Prop)(E:Value->Shared->Prop):
 (Q (.bool r) s->wpAny (model U w) A (compareOp .Eq u v) Q E s)/\(Q (.bool<|!r) s->wpAny (model U w) A (compareOp .NotEq u v) Q E s):=by
 haveI G:A.in1.units+64<cLine:=Qv (QB (by decide:1+64<=80) A.units) C;refine alS e (λe=>?_) λi j l ep l' b0 za zb el er t=>?_
 ·refine ip (abC e) λd d' z7=>acu z7 λhd I s1 s2 K=>?_;subst K;exact bC (D.Al Z 8 hd) λas r1=>bC (F.Al Z 8 I) λbs r2=>⟨λq=>eq_dataH r1 r2 s1 s2 (by lia) q,λq=>ne_dataH r1 r2 s1 s2 (by lia) q⟩
 ·clear e;subst za zb;refine zc (D.at Z el) λp M hp _ k=>?_;subst M;refine dN k λP _ da _ y=>?_;clear k D;refine zc (F.at Z er) λq W hq _ n=>?_;subst W;refine dN n λkb _ db _ B=>?_;clear n F;haveI np:=Z.Ad f<|bw hp;haveI nq:=Z.Ad f<|bw hq;have o:∀{x:Bool},(P.length ==kb.length)=x->(P.length=kb.length->KeqHits A.in1 s kb P r)->(x&&r)=r->(Q (.bool r) s->wpAny (model U w) A (compareOp .Eq (.ref p.1)<|.ref q.1) Q E s)/\(Q (.bool<|!r) s->wpAny (model U w) A (compareOp .NotEq (.ref p.1)<|.ref q.1) Q E s):=λhx g hr=>
   ⟨λz=>keq_eq np nq da.dictOf db.dictOf (Qv (Qq A.units 80) C) g<|by(refine af hx<|af hr ?_);exact z,λz=>keq_ne np nq da.dictOf db.dictOf (Qv (Qq A.units 80) C) g<|by(refine af hx<|af hr ?_);exact z⟩
  by_cases c:l.length=l'.length
  ·rw [Qh c] at t;exact o (x:=true) (by(refine af y.Aa<|af B.Aa<|af c ?_);exact BEq.rfl) (λ_=>adk (A:=A.in1) Z G B y t) rfl
  ·rw [Qe c] at t;haveI z:=Qb t;subst z;exact o (x:=false) (by(refine af y.Aa<|af B.Aa ?_);exact Zy.mpr c) (λq=>absurd (y.Aa.symm.trans<|q.trans B.Aa) c) rfl
theorem eq_snd(Z:FS U w J Y hz L m ρ H s.heap)(c:(hz.get? sysModules).isSome=true)(g:A.units+80<cLine)(d:VR J ρ s.heap u a)(f:VR J ρ s.heap v b)(e:eqV H a b=some r)(Q:Value->Shared->Prop)(E:Value->Shared->Prop):
 (Q (.bool r) s->wpAny (model U w) A (compareOp .Eq u v) Q E s)/\(Q (.bool<|!r) s->wpAny (model U w) A (compareOp .NotEq u v) Q E s):=by
 cases a with
 |G x=>
  cases b with
  |G y=>
   refine VR.Ad d λ_=>VR.Ad f λ_=>?_;injection e with z;subst z;have i:(x.toArray.toList ==y.toArray.toList)=decide (x=y):=by
    by_cases q:x=y
    ·rw [QY q];exact beq_iff_eq.mpr q
    ·rw [QT q];exact Zy.mpr q
   exact⟨λq=>W.eq_bytes<|by rw [i];exact q,λq=>W.ne_bytes<|by show Q (.bool<|!(x.toArray.toList ==y.toArray.toList)) s;rw [i];exact q⟩
  |_=>exact dU Z c g d f e Q E
 |_=>exact dU Z c g d f e Q E
end
end
section
section
variable {U:Program} {w:World} {J:Nat->Value} {Y:Str->Option Addr} {hz:B0} {h h':Heap} {ρ ρ':List (Addr×Addr)} {H H':Hp} {L:Addr} {m:Str->Option Value} {A:Around} {N:Heap->Heap->Addr->Str->Str->Prop}
 {α β γ δ:Type} {s:Shared} {R:List (Addr×Addr)->Heap->α->β->Prop} {R':List (Addr×Addr)->Heap->γ->δ->Prop}
set_option tactic.hygienic true in
theorem aiI(b:∀i,J i≠.none)(r:VR J ρ h v a):(v ==Value.none)=dH a:=by
 cases r<;>first|rfl|skip
 rename_i i
 haveI:(J i ==Value.none)=false:=Zy.mpr<|b i;exact this
def aiJ(i:Int)(v:Value):Bool:=aeU false v (int:=λj _=>j ==i)
def aiK(x:Str)(v:Value):Bool:=aeU false v (str:=λj _=>j ==x)
theorem wZ(r:bN J ρ h vs l)(e:ou i l=some b):vs.any (aiJ i)=b/\∀y∈vs,∃j t,y=.int j t:=by
 refine bN.Ae (P:=λvs l=>∀b,ou i l=some b->vs.any (aiJ i)=b/\∀y∈vs,∃j t,y=.int j t) r (λb e=>by haveI d:=Qb e;subst d;exact⟨rfl,λ_ h=>absurd h Zx⟩) (λ{v x vs l} a _ f b e=>?_) b e
 cases x with
 |A j=>
  haveI e:(ou i l).map (decide (j=i)||·)=some b:=e;exact VR.Aa a λt=>bm e λc g=>aP (f _ g) λk n=>⟨by(refine af List.any_cons<|af k ?_);rfl,λy o=>(Qz.mp o).elim (λe=>fK j t e)<|n y⟩
 |_=>exact ar e
theorem xd(r:bN J ρ h vs l)(e:oy i l=some b):vs.any (aiK i)=b/\∀y∈vs,∃j t,y=.str j t:=by
 refine bN.Ae (P:=λvs l=>∀b,oy i l=some b->vs.any (aiK i)=b/\∀y∈vs,∃j t,y=.str j t) r (λb e=>by haveI d:=Qb e;subst d;exact⟨rfl,λ_ h=>absurd h Zx⟩) (λ{v x vs l} a _ f b e=>?_) b e
 cases x with
 |D j=>
  haveI e:(oy i l).map (decide (j=i)||·)=some b:=e;refine VR.Ae a λt=>bm e λc g=>aP (f _ g) λk n=>⟨?_,λy o=>(Qz.mp o).elim (λe=>fK j t e)<|n y⟩;refine af List.any_cons<|af k ?_;show(j ==i||c)=(decide (j=i)||c)
  by_cases q:j=i
  ·exact af (QY q)<|af (beq_iff_eq.mpr q) rfl
  ·exact af (QT q)<|af (Zy.mpr q) rfl
 |_=>exact ar e
theorem xe(l:List (Str×V)):vi k l=(aB k l).isSome:=by
 induction l with
 |nil=>rfl
 |cons p l a=>
  show(p.1 ==k||vi k l)=(if p.1=k then some p.2 else aB k l).isSome
  by_cases q:p.1=k
  ·exact af (Qh q)<|af (beq_iff_eq.mpr q) rfl
  ·exact af (Qe q)<|af (Zy.mpr q)<|af a rfl
theorem gw.Aj(r:gw J ρ h kvs l):(valueAt kvs k).isSome=vi k l:=by
 refine af (xe ..) ?_
 cases e:aB k l with
 |none=>exact af (r.Ad e) rfl
 |some y=>exact aT (r.Ab e) λv a _=>af a rfl
theorem aeY(Z:FS U w J Y hz L m ρ H s.heap)(c:(hz.get? sysModules).isSome=true)(hu:A.units+80<cLine)(x:VR J ρ s.heap u a)(D:VR J ρ s.heap v b)(e:inA a b H=some r)(Q:Value->Shared->Prop)(E:Value->Shared->Prop):
 ((∀tk,Q (.bool r) {s with toks:=tk})->wpAny (model U w) A (compareOp .In u v) Q E s)/\((∀tk,Q (.bool<|!r) {s with toks:=tk})->wpAny (model U w) A (compareOp .NotIn u v) Q E s):=by
 cases b with
 |F l=>
  refine VR.Ag D λF vs G I=>?_;haveI d:∀{f:Value->Bool} {u:Value},vs.any f=r->(∀y,y∈vs->SeqAt.EqAt A.in1 s y u (f y))->
   ((∀tk,Q (.bool r) {s with toks:=tk})->wpAny (model U w) A (compareOp .In u<|.ref F) Q E s)/\((∀tk,Q (.bool<|!r) {s with toks:=tk})->wpAny (model U w) A (compareOp .NotIn u<|.ref F) Q E s):=λ{f u} g o=>
   have K:vs.toArray.any f=r:=by refine cI g ?_;simp
   have o:∀y,y∈vs.toArray->SeqAt.EqAt A.in1 s y u (f y):=λy n=>o y (by simpa using n)
   ⟨λq=>SeqAt.in_tupleAt _ G o<|by exact af K<|q s.toks,λq=>SeqAt.notIn_tupleAt _ G o<|by exact af K<|q s.toks⟩
  cases a with
  |A i=>exact VR.Aa x λt=>aP (wZ I e) λg B=>d g λy n=>ip (B y n) λj C z=>by exact af z<|SeqAt.EqAt.int_int j C i t
  |D i=>exact VR.Ae x λt=>aP (xd I e) λg B=>d g λy n=>ip (B y n) λj C z=>by exact af z<|SeqAt.EqAt.str_str j C i t
  |_=>exact ar e
 |B i=>
  cases a with
  |D k=>
   refine aeJ e λl ep W e=>?_;haveI z7:=Qb e;subst z7;refine VR.Ae x λt=>zc (D.at Z W) λp z8 hp _ z9=>?_;subst z8;exact dN z9 λkvs _ M _ rk=>
    haveI P:=Z.Ad c<|bw hp;haveI q:=rk.Aj (k:=k)
    ⟨λz=>wpAny_in_of (strKind_is U w k t) P M.dictOf.mapOf<|by exact af q<|z _,λz=>wpAny_notIn_of (strKind_is U w k t) P M.dictOf.mapOf<|by exact af q<|z _⟩
  |_=>exact ar e
 |_=>exact ar e
def aeW(K:Frag)(C:Addr):Prop:=findIn K (.ref C) "__getattribute__"=some (some<|.builtin "BaseException.__getattribute__")/\findIn K (.ref C) "__getattr__"=some none/\mroIn K C (.type "BaseException")=some true
structure aba(J:Nat->Value)(Y:Str->Option Addr)(K:Frag)(hz:B0)(A:Around):Prop where
 Ac:∀i,∃f:Addr,J i=.ref f
 Ab:(hz.get? sysModules).isSome=true
 Aa:A.units+80<cLine
 X:K.In hz.toHeap
 Af:∀c C a,Y c=some C->gX a bE=true->(plainGet K C a=true∨aeW K C)/\hasDictIn K C=true/\∃attr,findIn K (.ref C) a=some attr/\noGet K attr=true
 Ah:∀c C a,Y c=some C->jq c=true->gX a bE=true->findIn K (.ref C) "__setattr__"=some (some<|.builtin "object.__setattr__")/\plainOver K C=true/\takerIn K C a=some none
theorem aba.gn{K:Frag}(D:aba J Y K hz A)(i:Nat):J i≠.none:=by
 refine bC (D.Ac i) λf e=>af e ?_;nofun
theorem ai.Av(h:∀r,b=some r->ai U w J Y hz L m A N ρ s (du J) t (.ok (.E r) H)):ai U w J Y hz L m A N ρ s (du J) t (zB b H):=by
 cases b with
 |none=>exact ai.Aa
 |some r=>exact h r rfl
theorem xf(Z:FS U w J Y hz L m ρ H s.heap)(c:VR J ρ s.heap u a)(d:VR J ρ s.heap v b)
 (k:∀{x y:Int} {t g:Tok} {Q:Value->Shared->Prop} {E:Value->Shared->Prop},Q (.bool<|f x y) s->wpAny (model U w) A (compareOp op (.int x t)<|.int y g) Q E s):ai U w J Y hz L m A N ρ s (du J) (compareOp op u v) (ltA f a b H):=by
 cases a with
 |A x=>
  cases b with
  |A y=>exact VR.Aa c λ_=>VR.Aa d λ_=>ai.Ac Z λQ E e=>k<|e _ _<|.Aj _
  |_=>exact ai.Aa
 |_=>exact ai.Aa
theorem xg(Z:FS U w J Y hz L m ρ H s.heap)(a:VR J ρ s.heap v b)
 (k:∀{Q:Value->Shared->Prop} {E:Value->Shared->Prop},Q (.bool r) s->wpAny (model U w) A (compareOp op u .none) Q E s):ai U w J Y hz L m A N ρ s (du J) (compareOp op u v) (vC .Ab b (none:=.ok (.E r) H)):=by
 cases b with
 |C=>exact VR.Ah a<|ai.Ac Z λQ E e=>k<|e _ _<|.Aj _
 |_=>exact ai.Aa
theorem abe{K:Frag}(D:aba J Y K hz A)(Z:FS U w J Y hz L m ρ H s.heap)(d:VR J ρ s.heap u a)(f:VR J ρ s.heap v b):
 ai U w J Y hz L m A N ρ s (du J) (compareOp op u v) (eO op a b H):=by
 cases op with
 |Eq=>exact ai.Av λb e=>ai.Ac Z λQ E k=>(eq_snd Z D.Ab D.Aa d f e Q E).1<|k _ _<|.Aj _
 |NotEq=>exact ai.Av λb e=>bm e λc g=>ai.Ac Z λQ E k=>(eq_snd Z D.Ab D.Aa d f g Q E).2<|k _ _<|.Aj _
 |Lt=>exact xf Z d f P.lt_int
 |LtE=>exact xf Z d f PyProof.Rows.le_int
 |Gt=>exact xf Z d f P.gt_int
 |GtE=>exact xf Z d f PyProof.Rows.ge_int
 |Is=>exact xg Z f λq=>is_none (by exact af (aiI D.gn d) q)
 |IsNot=>exact xg Z f λq=>isNot_none (by exact af (aiI D.gn d) q)
 |In=>exact ai.Av λb e=>ai.Ac Z λQ E k=>(aeY Z D.Ab D.Aa d f e Q E).1 λtk=>k _ _<|.Aj _
 |NotIn=>exact ai.Av λb e=>bm e λc g=>ai.Ac Z λQ E k=>(aeY Z D.Ab D.Aa d f g Q E).2 λtk=>k _ _<|.Aj _
end
end
section
open Builtin Builtin.Bytes
namespace BA
theorem Ar:Manifest.owners.lookup (String.ofList ['y', 'a', 'r', 'r', 'a', 'e', 't', 'y', 'b'].reverse)=some Manifest.sig_bytearray:=by kernel_rfl
theorem AF:Slot "bytearray" "__len__" "bytearray.__len__":=
 .of (owner:="bytearray") (n:="__len__") (by(refine af (Zj ..)<|af (QV ..) ?_);kernel_rfl) (by decide+kernel) (by decide+kernel) (by decide+kernel)
  (by first|exact .inl (by decide+kernel)|exact .inr<|by decide+kernel) (by refine af (isSubtype_type ..) ?_;kernel_rfl)
theorem Az:entryFor table "bytearray.__len__"=some Builtin.«bytearray.__len__»:=entryFor_of_tree (by kernel_rfl)
theorem AZ(a:Value):argsOk "bytearray.__len__" ⟨[a],[]⟩:=by
 unfold argsOk;refine af (signature?_of (id:="bytearray.__len__") (n:=['_', '_', 'n', 'e', 'l', '_', '_']) (o:=['y', 'a', 'r', 'r', 'a', 'e', 't', 'y', 'b']) (by kernel_rfl) Ar) ?_;kernel_rfl
theorem Aa:Slot "bytearray" "__getitem__" "bytearray.__getitem__":=
 .of (owner:="bytearray") (n:="__getitem__") (by(refine af (Zj ..)<|af (QV ..) ?_);kernel_rfl) (by decide+kernel) (by decide+kernel) (by decide+kernel)
  (by first|exact .inl (by decide+kernel)|exact .inr<|by decide+kernel) (by refine af (isSubtype_type ..) ?_;kernel_rfl)
theorem Ac:entryFor table "bytearray.__getitem__"=some Builtin.«bytearray.__getitem__»:=entryFor_of_tree (by kernel_rfl)
theorem Ap(a b:Value):argsOk "bytearray.__getitem__" ⟨[a,b],[]⟩:=by
 unfold argsOk;refine af (signature?_of (id:="bytearray.__getitem__") (n:=['_', '_', 'm', 'e', 't', 'i', 't', 'e', 'g', '_', '_']) (o:=['y', 'a', 'r', 'r', 'a', 'e', 't', 'y', 'b']) (by kernel_rfl) Ar) ?_;kernel_rfl
theorem An:Slot "bytearray" "__iter__" "bytearray.__iter__":=
 .of (owner:="bytearray") (n:="__iter__") (by(refine af (Zj ..)<|af (QV ..) ?_);kernel_rfl) (by decide+kernel) (by decide+kernel) (by decide+kernel)
  (by first|exact .inl (by decide+kernel)|exact .inr<|by decide+kernel) (by refine af (isSubtype_type ..) ?_;kernel_rfl)
theorem Ax:entryFor table "bytearray.__iter__"=some Builtin.«bytearray.__iter__»:=entryFor_of_tree (by kernel_rfl)
theorem AX(a:Value):argsOk "bytearray.__iter__" ⟨[a],[]⟩:=by
 unfold argsOk;refine af (signature?_of (id:="bytearray.__iter__") (n:=['_', '_', 'r', 'e', 't', 'i', '_', '_']) (o:=['y', 'a', 'r', 'r', 'a', 'e', 't', 'y', 'b']) (by kernel_rfl) Ar) ?_;kernel_rfl
abbrev Ai(l:List UInt8):Obj:={cls:=.type "bytearray",data:=.bytearray l.toArray 0}
theorem Bh(b:s.heap.get? a=some (Ai l))(h:Q l.toArray s):wpAny M A (payload<|.ref a) Q E s:=by
 exact Qc<|Qc<|wpAny_load b<|Qp<|Qp h
theorem AL(a:Addr)(l:List UInt8):Meets (Builtin.«bytearray.__len__» ⟨[.ref a],[]⟩) (λ_ R s=>s.heap.get? a=some (Ai l)/\R (.ok<|.ret<|.int l.length s.toks) {s with toks:=s.toks+1}):=
 .of_wp λU w A R s h=>by
  refine Qc<|QZ (a:=(.ref a,[])) rfl ?_;refine Qc<|Bh h.1 ?_;exact wpAny_ret_mkInt (by simpa using h.2)
theorem Bj(a:0<=i)(b:i<2^62):Bytes.fitsIndex i=true:=by
 simp only [Bytes.fitsIndex,ZH,decide_eq_true_eq];lia
theorem AJ(a:Addr)(l:List UInt8)(i:Int)(t:Tok)(x:UInt8)(b:0<=i)(d:i<2^62)(c:l[i.toNat]?=some x):Meets (Builtin.«bytearray.__getitem__» ⟨[.ref a,.int i t],[]⟩) (λ_ R s=>s.heap.get? a=some (Ai l)/\R (.ok<|.ret<|.int x.toNat s.toks) {s with toks:=s.toks+1}):=
 .of_wp λU w A R s h=>by
  refine Qc<|QZ (a:=(.ref a,[.int i t])) rfl ?_;refine Qc<|Qc<|Zk (typeIs_int s i t) F.slot_int_index.lookup ?_;show wpAny _ _ (if(!Bytes.fitsIndex i)=true then _ else pure (some i)) _ _ s;refine af (Bj b d)<|Qp<|Qc<|Bh h.1 ?_;haveI k:i.toNat<l.length:=(Qg.mp c).1;haveI e:(seqIndex? i l.toArray.size).bind (l.toArray[·]?)=some x:=by
   haveI f:¬i<0:=Int.not_lt.mpr ‹_›;haveI g:i<(l.length:Int):=by lia
   haveI j:=(Qg.mp c).2;simp [seqIndex?,f,b,g,j]
  exact af e<|wpAny_ret_mkInt h.2
theorem AD(b:List UInt8)(a z:Addr){c d:Option Int}(D:IsPart l c)(E:IsPart u d):
 Meets (Builtin.«bytearray.__getitem__» ⟨[.ref a,.ref z],[]⟩) (λ_ R s=>s.heap.get? a=some (Ai b)/\s.heap.IsSliceOf z l u .none/\(KBy.picked b.toArray c d).size<=sizeLine/\R (.ok<|.ret<|.ref s.heap.objs.size) {s with heap:=s.heap.push {cls:=.type "bytearray",data:=.bytearray (KBy.picked b.toArray c d)}}):=by
 refine .of_wp λU w A R s q=>gF q λG x hsz h=>?_;clear q;refine eI x λo f I j=>?_;clear x;have y:s.TypeIs (.ref z) "slice":=bv o f I;refine Qc<|QZ (a:=(.ref a,[.ref z])) rfl ?_;refine Qc<|Qc<|Zk y slice_no_index<|Qp ?_;refine Qc<|wpAny_typeOf y ?_;have part:∀(v:Value) (k:Option Int),IsPart v k->∀(Q:Value->Shared->Prop),Q (rawPart k) s->wpAny (model U w) A.in1 (if(v ==Value.none)=true then pure .none else do
  if(←specialOf v "__index__").isNone then
   rule "bytes.slice.part-no-index";raiseError "TypeError" "slice indices must be integers or None or have an __index__ method"
  return rawInt (←asIndex v)) Q (λe g=>R (.error e) g) s:=by
  intro v k K Q B
  cases K with
  |none=>exact Qp B
  |int i t=>
   refine Qc<|Zk (typeIs_int s i t) F.slot_int_index.lookup ?_;exact Qc<|QZ (a:=i) rfl<|Qp B
 refine Qc<|Qc<|wpAny_field (x:=.none) f j rfl ?_;refine Qc<|Qp ?_;refine wpAny_ite<|KBy.ite_no (show ¬((Value.none ==rawInt 0)=true) from Zv) ?_;refine Qc<|wpAny_field (x:=l) f j rfl ?_;refine Qc<|part l c D _ ?_;refine Qc<|wpAny_field (x:=u) f j rfl ?_;refine Qc<|part u d E _ ?_;refine Qp<|Qc<|Bh G ?_;have M:wpAny (model U w) A.in1 (sliceIndices (rawPart c) (rawPart d) (rawPart none) b.toArray.size) (λr g=>r=sliceBounds c d none b.toArray.size/\g=s) (λ_ _=>False) s:=
  QZ (sliceIndices_raw c d none _ (λe=>nomatch e)) ⟨rfl,rfl⟩
 refine Qc<|wpAny_mono M (λr g C=>?_) λ_ _ e=>e.elim;refine aP C λn p=>?_;clear C;subst n p;exact Qc<|wpAny_newObj_type (Qp<|bv _ rfl h) hsz
end BA
section
variable {U:Program} {w:World} {J:Nat->Value} {Y:Str->Option Addr} {hz:B0} {h h':Heap} {ρ ρ':List (Addr×Addr)} {H H':Hp} {L:Addr} {m:Str->Option Value} {A:Around} {N:Heap->Heap->Addr->Str->Str->Prop}
 {α β γ δ:Type} {s:Shared} {R:List (Addr×Addr)->Heap->α->β->Prop} {R':List (Addr×Addr)->Heap->γ->δ->Prop}
theorem pL(e:idx k n=some j):0<=k/\k<n/\n<=1000000/\j=k.toNat:=by
 unfold idx at e
 split at e
 ·rename_i q;haveI a:=Qb e;subst a;exact⟨q.1,q.2.1,q.2.2,rfl⟩
 ·exact ar e
theorem acB(Z:FS U w J Y hz L m ρ H s.heap)(B:VR J ρ s.heap u a)(C:VR J ρ s.heap v k)
 (hs:∀o i,subscripted slice false o i=operate [o,i] (getItem o i)):ai U w J Y hz L m A N ρ s (du J) (subscriptTail value slice u v) (nZ a k H):=by
 cases a with
 |F l=>
  cases k with
  |A k=>
   refine VR.Ag B λad vs P D=>VR.Aa C λt=>ai.Ag λj c=>ai.Ag λx ex=>gF (pL c) λd f F W=>?_;subst W;refine aT (D.Al ex) λy g q=>?_;haveI r:=D.Aa;haveI hn:¬k<0:=by lia
   haveI h3:k<(vs.length:Int):=zeq f r;exact ai.Ac Z λQ E e=>item_tupleT (j:=k.toNat) P (by lia) (by lia) (by simp [seqIndex?,hn,d,h3]) g (e _ _ q)<|hs _ _
  |_=>exact ai.Aa
 |G l=>
  cases k with
  |A k=>
   refine VR.Ad B λt=>VR.Aa C λu=>ai.Ag λj c=>ai.Ag λx ex=>gF (pL c) λd f F z4=>?_;subst z4;refine ai.Ac Z λQ E e=>tail_any (typeIs_bytes s _ _) FB.slot_bytes_getitem.lookup (getItem_bytes (Qa ‹_› lb) d f ?_)<|hs _ _;have:l.getD k.toNat 0=x:=by simp [List.getD,ex]
   exact af this<|e _ _<|.Ac _ _
  |_=>exact ai.Aa
 |B i=>
  cases k with
  |A k=>
   refine VR.Aa C λt=>ai.Au Z λo G=>eI (B.at Z G) λp z5 hp R=>?_;subst z5
   cases o with
   |A l=>
    refine ai.Ag λj c=>ai.Ag λx ex=>gF (pL c) λd f F z6=>?_;subst z6;refine aP R λ_ I=>?_;clear R;refine cM I λvs n b D=>?_;clear I;refine aT (D.Al ex) λy g q=>?_;have K:s.heap.IsList p.1 vs.toArray:=cz _ b rfl ⟨n,rfl⟩;exact ai.Ac Z λQ E e=>tail_any K.typeIs slot_list_getitem.lookup (wpAny_getItem_list K d (by lia) (by simpa using g)<|e _ s.toks q)<|hs _ _
   |D l=>
    refine ai.Ag λj c=>ai.Ag λx ex=>gF (pL c) λd f F z8=>?_;subst z8;refine aP R λ_ b=>?_;clear R;exact ai.Ac Z λQ E e=>tail_any (bv _ b rfl) BA.Aa.lookup (getItem_meets (bv _ b rfl) dd BA.Aa BA.Ac (BA.Ap _ _) (BA.AJ _ _ _ _ _ d (by lia) ex) ⟨b,e _ _<|.Ac _ _⟩)<|hs _ _
   |_=>exact ai.Aa
  |D x=>
   refine VR.Ae C λt=>ai.Au Z λo G=>eI (B.at Z G) λp z9 hp R=>?_;subst z9
   cases o with
   |B l ep=>
    refine ai.Ag λv ev=>aP R λ_ z=>?_;clear R;refine dN z λkvs _ M _ rk=>?_;clear z;exact aT (rk.Ab ev) λy g q=>ai.Ac Z λQ E e=>tail_any M.dictOf.typeIs slot_dict_getitem.lookup (wpAny_getItem_of (strKind_is U w x t) M.dictOf.mapOf g<|e _ _ q)<|hs _ _
   |_=>exact ai.Aa
  |_=>exact ai.Aa
 |_=>exact ai.Aa
end
end
end Mine
end
section
open PySem PySem.W PyProof.Rows PySem.Calls
open Builtin Builtin.ObjectAttr
namespace Mine
section
section
variable {U:Program} {w:World} {A:Around} {E:Value->Shared->Prop} {s:Shared} {K:Frag} {x C:Addr} {ox:Obj} {od:Option Obj} {name:Str} {expr:Bool} {Q:Value->Shared->Prop}
theorem xi:Slot "BaseException" "__getattribute__" "BaseException.__getattribute__":=
 .of (owner:="BaseException") (n:="__getattribute__") (by(refine af (Zj ..)<|af (QV ..) ?_);kernel_rfl) (by decide+kernel) (by decide+kernel) (by decide+kernel)
  (by first|exact .inl (by decide+kernel)|exact .inr<|by decide+kernel) (by refine af (isSubtype_type ..) ?_;kernel_rfl)
theorem aam(X:K.In s.heap)(I:InstAt s.heap x ox C od)(a:findIn K (.ref C) "__getattribute__"=some (some<|.builtin "BaseException.__getattribute__"))(f:findIn K (.ref C) "__getattr__"=some none)
 (i:findObj K C od name=some (.value v))(j:handedIn v=true)(b:mroIn K C (.type "BaseException")=some true)(h:Q v {s with toks:=s.toks+1}):wpAny (model U w) A (getAttr (.ref x) name expr) Q E s:=by
 haveI c:=I.type (M:=model U w);haveI k:Looks (model U w) s.heap (hookBefore<|.ref C) none:=looks_hook X (r:=none) (by show(if onTheHeap (.ref C) then findIn K (.ref C) "__getattr__" else some none)=_;exact af (Qh (show onTheHeap (.ref C)=true from rfl))<|af f rfl);refine Qc<|wpAny_mkText<|Zg<|Qc<|c _ _ _ _ (λ_ _ e=>e)<|Qc<|looks_findIn X a _ _ _ _ (λ_ _ e=>e) ?_;dsimp only;refine af (show(onTheHeap (.ref C)&&Value.builtin "BaseException.__getattribute__"==Value.builtin "object.__getattribute__")=false from by rw [show(Value.builtin "BaseException.__getattribute__"==Value.builtin "object.__getattribute__")=false from by decide+kernel,Bool.and_false])<|af (Qe<|by decide)<|Qc<|k _ _ _ _ (λ_ _ e=>e)<|Qc<|wpAny_attempt<|Zg ?_;unfold callGetattribute;refine af (show(expr&&onTheHeap (Value.builtin "BaseException.__getattribute__"))=false from by cases expr<;>rfl)<|af (Qe dd) ?_;unfold boundAndCalled;refine af (xi.bind ..)<|Qc<|Qp ?_;refine wpAny_call<|codeAny_call_builtin xi.plain PySem.F.entry_bexc_ga ?_;refine @check_slot (model U w) _ _ {s with toks:=s.toks+1} "BaseException.__getattribute__" "BaseException" "__getattribute__" (.ref x) [.str name s.toks] [] _ (by decide+kernel) (by decide+kernel) (c.andThen<|looks_mroIn X b) (PySem.F.args_bexc_ga _ _) ?_;obtain⟨l,g,d,t,o⟩:=s;haveI m:=I.type (M:=model U w);haveI n:=looks_find (M:=model U w) X I i;refine Qc<|Qp<|Qc<|Qp<|Qc<|m.at<|Qc<|n.at ?_;refine Qp ?_;show wpAny _ _ (handedOut v) _ _ _;exact af (handedOut_of j)<|Qp h
end
end
end Mine
end
section
open PySem PySem.W PyProof.Rows PySem.Calls
namespace Mine
section
section
variable {U:Program} {w:World} {J:Nat->Value} {Y:Str->Option Addr} {hz:B0} {h h':Heap} {ρ ρ':List (Addr×Addr)} {H H':Hp} {L:Addr} {m:Str->Option Value} {A:Around} {N:Heap->Heap->Addr->Str->Str->Prop}
 {α β γ δ:Type} {s:Shared} {R:List (Addr×Addr)->Heap->α->β->Prop} {R':List (Addr×Addr)->Heap->γ->δ->Prop} {E:Value->Shared->Prop}
theorem xj(f:(strKind U w).is k key=true)(C:s.heap.DictAt (strKind U w) d kvs ep)
 (D:∀h',h'.DictAt (strKind U w) d (stored kvs k v) (if kvs.any (λkv=>kv.1=k) then ep else ep+1)->Heap.SameBut d s.heap h'->Q () {s with heap:=h',toks:=s.toks+1})
 (hsz:kvs.length<=sizeLine):wpAny (model U w) A (dictSet d key v) Q E s:=by
 refine alo C λo es r F p u t x=>?_;clear C;have y:es.size<=sizeLine:=by
  haveI P:=t.length;haveI W:es.toList.length=es.size:=by simp
  lia
 have j:(es.findIdx? λe=>(strKind U w).is k e.key)=kvs.findIdx? λkv=>decide (kv.1=k):=by
  refine cI (t.findIdx k) ?_;obtain⟨l⟩:=es;simp
 refine Zg<|Qc<|(strKind U w).pyHash f ?_;refine Zg<|Qc<|wpAny_dictFind_of (s:={s with toks:=s.toks+1}) f r p u ?_
 cases z:es.findIdx? λe=>(strKind U w).is k e.key with
 |some i=>
  haveI c:=any_of_findIdx_some<|j ▸z;have g:=D<|s.heap.update d<|Obj.mapDict λes=>es.modify i λe=>{e with val:=v};rw [Qh c,stored,Qh c] at g;refine Qc<|wpAny_rule<|Qc<|wpAny_updateDict (s:={s with toks:=s.toks+1}) r p<|wpAny_point<|g (aeA _ _ (Zb _ r<|Obj.isFreed_of_dict<|Obj.data_mapDict p _) (F.mapDict _) (Obj.data_mapDict p _) (u.modify _ _) ?_ ?_)<|Heap.SameBut.update ..
  ·have I:(es.toList.findIdx? λe=>(strKind U w).is k e.key)=some i:=by refine cI z ?_;obtain⟨l⟩:=es;simp
   have:=t.modify x I v;obtain⟨l⟩:=es
   simpa using this
  ·exact af (keys_map_store ..) x
 |none=>
  haveI n:=not_mem_of_findIdx_none<|j ▸z;have c:¬(kvs.any λkv=>decide (kv.1=k))=true:=λq=>by
   exact aT (List.any_eq_true.mp q) λkv B K=>n<|Zz.mpr<|bv kv B<|Ql K
  have g:=D<|s.heap.update d<|Obj.mapDictKeys λes=>es.push ⟨(strKind U w).hash k,key,v⟩;rw [Qe c,stored,Qe c] at g;refine Qc<|wpAny_rule<|wpAny_updateDictKeys (hz:=y) (s:={s with toks:=s.toks+1}) r p<|g (aeA _ _ (Zb _ r<|Obj.isFreed_of_dict<|Obj.data_mapDictKeys p _) (F.mapDictKeys _) (Obj.data_mapDictKeys p _) (u.push f _) ?_ ?_)<|Heap.SameBut.update ..
  ·haveI:=t.append f ((strKind U w).hash k) v;obtain⟨l⟩:=es
   simpa using this
  ·rw [ZL,List.nodup_append];refine⟨x,by simp,λa M b G e=>?_⟩;simp only [Zu,List.map_nil,QM] at G;exact n<|G ▸e ▸M
theorem xp(a:(strKind U w).is k key=true)(f:s.heap.DictAt (strKind U w) d kvs ep)
 (g:∀h',h'.DictAt (strKind U w) d (stored kvs k v) (if kvs.any (λkv=>kv.1=k) then ep else ep+1)->Heap.SameBut d s.heap h'->Q () {s with heap:=h',toks:=s.toks+1})
 (hsz:kvs.length<=sizeLine):wpAny (model U w) A (setItem (.ref d) key v) Q E s:=by
 haveI b:=f.dictOf.typeIs;refine Zg<|Qc<|wpAny_sequenceKey b dd ?_;refine Qc<|wpAny_callSpecial?_slot (name:=Str.ofString "__setitem__") b slot_dict_setitem<|wpAny_call_entry slot_dict_setitem b entry_dict_setitem ?_<|args_dict_setitem _ _ _;refine Qc<|wpAny_notOrdered_dict b ?_;show wpAny _ _ (dictSet d key v>>= _) _ _ s;exact Qc<|xj a f (λh' c e=>Qp<|bv .none rfl<|Qp<|g h' c e) hsz
theorem gw.Aq(r:gw J ρ h kvs l):(kvs.any λkv=>decide (kv.1=k))=vi k l:=by
 induction r with
 |Ae=>rfl
 | @Ac x u v es l a b c=>
  haveI:=c;unfold vi at this ⊢;refine af List.any_cons<|af List.any_cons<|af this ?_
  by_cases q:x=k<;>simp [q]
theorem gw.Af(r:VR J ρ h v y)(q:gw J ρ h kvs l)(n:(kvs.map (·.1)).Nodup):gw J ρ h (stored kvs k v) (Mine.bz k y l):=by
 induction q with
 |Ae=>exact .Ac r .Ae
 | @Ac x u z kvs l a b c=>
  rw [Zu,List.nodup_cons] at n;show gw J ρ h _ (if x=k then(x,y)::l else(x,z)::Mine.bz k y l)
  by_cases q:x=k
  ·subst q;refine af (Qh rfl) ?_;unfold stored;exact af (Qh<|by simp)<|af Zu<|af (Qh rfl)<|.Ac r<|af (map_store_of_not_mem kvs x v n.1) b
  ·refine af (Qe q) ?_;haveI c:=c n.2;unfold stored at c ⊢;refine af List.any_cons ?_;haveI e:decide (x=k)=false:=QT q;simp only [e,Bool.false_or]
   split
   ·rename_i d
    rw [Qh d] at c;exact af Zu<|af (Qe q)<|.Ac a c
   ·rename_i d
    rw [Qe d] at c;exact .Ac a c
theorem ai.Ao{R:List (Addr×Addr)->Heap->α->Unit->Prop}(Z:FS U w J Y hz L m ρ H s.heap)(c:H[i]?=some o)(d:ρ[i]?=some p)
 (h:∀Q E,(∀a h' tk,h'.Ns L m->(∀b o,b≠p.1->b≠p.2->b≠L->s.heap.get? b=some o->h'.get? b=some o)->(Mv L ρ s.heap ρ h'->fC U w J Y ρ h' p o')->R ρ h' a ()->Q a {s with heap:=h',toks:=tk})->wpAny (model U w) A t Q E s):
 ai U w J Y hz L m A N ρ s R t (Mine.ml i o' H):=by
 haveI f:i<H.length:=(Qg.mp c).1;unfold Mine.ml;exact af (Qh f)<|ai.ok λQ E e=>h Q E λa h' tk g k r j=>aP (Z.Ar d g k r) λl M=>e ρ h' tk a l M j
theorem FS.Aq(Z:FS U w J Y hz L m ρ H h)(a:p∈ρ):(h.update p.1 f).Ns L m:=
 Z.ns.sameBut (Heap.SameBut.update _ _ _) (Z.nL p a).1.symm
theorem FS.Ae(Z:FS U w J Y hz L m ρ H h)(a:p∈ρ)(hs:Heap.SameBut p.1 h h'):h'.Ns L m:=
 Z.ns.sameBut hs (Z.nL p a).1.symm
theorem uJ{a k b:V}(Z:FS U w J Y hz L m ρ H s.heap)(P:VR J ρ s.heap u a)(W:VR J ρ s.heap v k)(c:VR J ρ s.heap z b):
 ai U w J Y hz L m A N ρ s (λ_ _ (_:Unit) (_:Unit)=>True) (setItem u v z) (fQ a k b H):=by
 cases a with
 |B i=>
  cases k with
  |A k=>
   refine VR.Aa W λt=>ai.Aj (t:=λu=>setItem u _ z) Z P λo p C g R=>?_
   cases o with
   |A l=>
    refine ai.Ag λj ej=>gF (pL ej) λh0 h1 h2 z2=>?_;subst z2;refine aP R λD z3=>cM z3 λvs n r hr=>?_;haveI y:=hr.Aa;haveI d:=bw g;refine ai.Ao Z C g λQ E e=>ki_setAt r h0 (by lia) (by simp;exact zeq h1 y)<|e () _ s.toks (Z.Aq d) (λb o F _ _ f=>(Heap.get?_update_ne _ _ _ _ F).trans f) (λM=>⟨D,vs.set k.toNat z,n,?_,bN.Au (c.Ab Z.st Z.ns M)<|hr.Ac Z.st Z.ns M⟩) trivial;refine af (Zb _ r rfl) ?_;simp [Obj.mapSeq]
   |_=>exact ai.Aa
  |D x=>
   refine VR.Ae W λt=>ai.Aj (t:=λu=>setItem u _ z) Z P λo p C g R=>?_
   cases o with
   |B l ep=>
    refine ai.Ab λhs=>aP R λD z5=>dN z5 λkvs ek dk he G=>?_;have d:=bw g;refine ai.Ao Z C g λQ E e=>xp (strKind_is U w x t) dk (λh' I sb=>e () h' _ (Z.Ae d sb) (λb o F _ _ f=>(sb.2 b F).trans f) (λM=>⟨D,_,_,I,?_,gw.Af (c.Ab Z.st Z.ns M) (G.Ai Z.st Z.ns M) dk.nodup⟩) trivial) (by refine af G.Aa ?_;exact dm hs);intro q B;refine af G.Aq ?_
    by_cases f:vi x l=true
    ·rw [Qh f] at B ⊢;exact he q B
    ·rw [Qe f] at B ⊢;exact bm (G:=λq=>q=ek+1) B λq' K=>Qt (·+1)<|he q' K
   |_=>exact ai.Aa
  |_=>exact ai.Aa
 |_=>exact ai.Aa
theorem tO{e:DictEntry}(b:e.key=.str x t):e.key.isStr a=decide (x=a):=by
 refine af b ?_;show(x ==a)=decide (x=a)
 by_cases q:x=a
 ·exact af (QY q)<|af (beq_iff_eq.mpr q) rfl
 ·exact af (QT q)<|af (Zy.mpr q) rfl
theorem nh.Ai{a:Str}(r:nh J ρ h es fs)(e:aB a fs=some y):∃v,getL a es=some (some v)/\VR J ρ h v y:=by
 induction r with
 |Ab=>exact ar e
 | @Aa d x t z es fs b f r g=>
  haveI e:(if x=a then some z else aB a fs)=some y:=e;haveI hs:=tO (a:=a) b
  by_cases q:x=a
  ·rw [Qh q] at e;haveI i:=Qb e;subst i;exact bv d.val (by simp [getL,List.find?_cons,hs,q]) f
  ·rw [Qe q] at e;refine aT (g e) λv c j=>bv v ?_ j;haveI k:d.refKey=false:=by rw [DictEntry.refKey,b]
   unfold getL at c ⊢;refine af (List.find?_cons ..) ?_;exact af (hs ..)<|af (QT q ..)<|af (List.any_cons ..)<|af (k ..)<|af (Bool.false_or ..) c
theorem nh.Ad(r:nh J ρ h es fs):(getL a es).isSome=true:=by
 induction r with
 |Ab=>rfl
 | @Aa d x t z es fs c f r b=>
  haveI e:d.refKey=false:=by rw [DictEntry.refKey,c]
  unfold getL at b ⊢;refine af (List.find?_cons ..) ?_;refine af (List.any_cons ..)<|af (e ..)<|af (Bool.false_or ..) ?_
  cases d.key.isStr a
  ·exact b
  ·rfl
theorem nh.Aj{a:Str}(c:VR J ρ h v y)(r:nh J ρ h es fs):nh J ρ h (putL a e (.str a i) v es) (Mine.bz a y fs):=by
 induction r with
 |Ab=>exact .Aa rfl c .Ab
 | @Aa d x t z es fs b f r g=>
  unfold putL;show nh J ρ h _ (if x=a then(x,y)::fs else(x,z)::Mine.bz a y fs);refine af (tO b) ?_
  by_cases q:x=a
  ·exact af (Qh q)<|af (Qh<|QY q)<|.Aa b c r
  ·exact af (Qe q)<|af (Qe<|of_decide_eq_false<|QT<|λh=>q<|Ql h)<|.Aa b f g
theorem nh.Ac(r:nh J ρ h es fs):es.length=fs.length:=by
 induction r with
 |Ab=>rfl
 |Aa _ _ _ a=>exact Qt (·+1) a
theorem aeZ{K:Frag}(D:aba J Y K hz A)(r:VR J ρ h v a):handedIn v=true:=by
 cases r<;>first|rfl|skip
 refine bC (D.Ac ‹_›) λf e=>?_;refine af e ?_;rfl
theorem uD{K:Frag}(D:aba J Y K hz A)(Z:FS U w J Y hz L m ρ H s.heap)(k:VR J ρ s.heap u o)(l:gX a bE=true):
 ai U w J Y hz L m A N ρ s (du J) (getAttr u a ex) (kh o a H):=by
 cases o with
 |B i=>
  refine ai.Aj (t:=λu=>getAttr u a ex) Z k λo p ho hp R=>?_
  cases o with
  |C c fs=>
   refine ai.Ag λv q=>acv R λC r es n t f x z B g F=>aT (F.Ai q) λy G d=>gx (D.Af _ C a t l) λb M P=>aT P λattr g3 g4=>?_;haveI I:W.InstAt s.heap p.1 r C (some<|dictOf es n):=⟨f,x,z,by exact af B g⟩;haveI j:=findObj_own (od:=dictOf es n) M g3 g4<|(lookIn_dict ..).trans G;exact ai.Ac Z λQ E e=>b.elim (λb=>get_value (D.X.keeps Z.st.Aa) I (plainGet_of b).1 j (aeZ D d)<|e _ _ d) λb=>aam (D.X.keeps Z.st.Aa) I b.1 b.2.1 j (aeZ D d) b.2.2<|e _ _ d
  |_=>exact ai.Aa
 |_=>exact ai.Aa
theorem adl(Z:FS U w J Y hz L m ρ H h)(hs:lV hz.toHeap L h=c++(d,o)::a)(k:Fr hz.toHeap L h' m)(f:News hz.toHeap L h' (c++(d,o')::a)):
 (∀b ob,b≠d->b≠L->h.get? b=some ob->h'.get? b=some ob)/\h'.get? d=some o':=by
 refine⟨λb ob l n e=>?_,(f (d,o')<|by simp).1⟩
 cases q:hz.get? b with
 |some g=>
  haveI:=Z.st.Aa b g q;rw [e] at this;haveI i:=Qb this;subst i;exact k.keep b ob q
 |none=>
  have j:(b,ob)∈lV hz.toHeap L h:=ny.mpr ⟨e,n,q⟩;rw [hs] at j;rcases Zd.mp j with z|z
  ·exact(f (b,ob)<|List.mem_append_left _ z).1
  ·rcases Qz.mp z with z|z
   ·injection z with z11 z12;subst z11;subst z12;exact absurd rfl l
   ·exact(f (b,ob)<|List.mem_append_right _<|.tail _ z).1
theorem uI{K:Frag}{u v:Value}(D:aba J Y K hz A)(Z:FS U w J Y hz L m ρ H s.heap)(hu:VR J ρ s.heap u o)(hv:VR J ρ s.heap v b)(F:gX a bE=true):
 ai U w J Y hz L m A N ρ s (λ_ _ (_:Unit) (_:Unit)=>True) (setAttr u a v) (ki o a b H):=by
 cases o with
 |B i=>
  refine ai.Aj (t:=λu=>setAttr u a v) Z hu λo p ho G R=>?_
  cases o with
  |C c fs=>
   refine ai.Ab λhg=>acv R λC P es n q f t hn x g y=>?_;haveI j:=bw G;refine gx (D.Af _ C a q F) λg1 g2 l=>aT l λattr g3 g4=>?_;clear l;refine gx (D.Ah _ C a q hg.1 F) λs1 s2 s3=>?_;have I:W.InstAt s.heap p.1 P C (some<|dictOf es n):=⟨f,t,hn,by refine af x ?_;exact g⟩;haveI a1:=y.Ac;refine dN (rT (hz:=hz) (L:=L) g (Z.nL p j).2 (Z.st.Ad p j).2) λb2 a2 hs q1 q2=>?_;haveI d:=uR (hz:=hz) (L:=L) (h:=s.heap);rw [hs] at d;haveI z:p.1≠p.2:=λe=>by
    rw [e,g] at f;haveI B:=Qb f;subst B;injection t
   haveI k:(putL a (PyData.keyHash w.params a) (.str a<|s.toks+1) v es).length<=1000:=by
    haveI:∀(es:List DictEntry),(putL a (PyData.keyHash w.params a) (.str a<|s.toks+1) v es).length<=es.length+1:=by
     intro es
     induction es with
     |nil=>simp [putL]
     |cons e r ih=>unfold putL;split<;>simp_all
    haveI:=this es;lia
   refine ai.Ao Z ho G λQ E e=>set_plain (D.X.keeps Z.st.Aa) I s1<|osa_dict (s:={s with toks:=s.toks+1}) (n:=putN a es n) (es:=putL a (PyData.keyHash w.params a) (.str a<|s.toks+1) v es) Z.fr d (D.X.keeps Z.st.Aa) I x s2 s3 g2 (y.Ad) q1 q2 (by exact af (putName_dict ..) rfl) rfl k λh' F' N'=>?_;refine aP (adl Z hs F' N') λk1 k2=>e () h' _ F'.ns (λb o _ hb hL hh=>k1 b o hb hL hh) (λM=>ahj C P _ _ q (k1 _ _ z (Z.nL p j).1 f) t hn x k2 ?_) trivial;exact nh.Aj (hv.Ab Z.st Z.ns M)<|y.Ae Z.st Z.ns M
  |_=>exact ai.Aa
 |_=>exact ai.Aa
end
end
section
section
variable {U:Program} {w:World} {J:Nat->Value} {Y:Str->Option Addr} {hz:B0} {h h':Heap} {ρ ρ':List (Addr×Addr)} {H H':Hp} {L:Addr} {m:Str->Option Value} {A:Around} {N:Heap->Heap->Addr->Str->Str->Prop}
 {α β γ δ:Type} {s:Shared} {R:List (Addr×Addr)->Heap->α->β->Prop} {R':List (Addr×Addr)->Heap->γ->δ->Prop} {E:Value->Shared->Prop}
theorem jP(r:VR J ρ h v a)(e:wd a d=some i)(n:Nat)(c:d<=n):∃b,IsPart v b/\b.elim d (clipAt n)=min i n:=by
 cases a with
 |C=>haveI z:=Qb e;subst z;exact VR.Ah r<|bv none .none (ZE c).symm
 |A k=>
  refine VR.Aa r λt=>uC e λq e=>?_;haveI z:=Qb e;subst z;refine bv (some k) (.int k t)<|bC (Int.eq_ofNat_of_zero_le q.1) λj f=>?_;subst f;exact clipAt_nat n j
 |_=>exact ar e
theorem aaZ(i j:Nat)(l:List α):bM i j l=(l.drop<|min i l.length).take (min j l.length - min i l.length):=by
 refine cI List.drop_take<|cI List.take_eq_take_min ?_
 by_cases a:i<=l.length
 ·exact af (ZE a) rfl
 ·haveI a:=Nat.le_of_not_le a;haveI b:=List.length_take_le' j l;exact af (Nat.min_eq_right a)<|af (List.drop_eq_nil_of_le b)<|List.drop_eq_nil_of_le<|Qa b a
theorem bN.As(r:bN J ρ h vs l)(i j:Nat):bN J ρ h (Mine.bM i j vs) (Mine.bM i j l):=(r.Ao).Am
theorem zD(Z:FS U w J Y hz L m ρ H s.heap)(W:VR J ρ s.heap u a)(K:VR J ρ s.heap x b)(P:VR J ρ s.heap y c)
 (hs:∀o i,subscripted sx false o i=operate [i,o] (getItem o i)):
 ai U w J Y hz L m A N ρ s (du J) (newFields "slice" [x,y,.none]>>= λi=>standAt x1>>= λ_=>subscriptTail value sx u i) (kj a b c H):=by
 have key:∀{u:Value} {r:bJ V},(∀f,f.heap.IsSliceOf s.heap.objs.size x y .none->FS U w J Y hz L m ρ H f.heap->Mv L ρ s.heap ρ f.heap->ai U w J Y hz L m A N ρ f (du J) (subscriptTail value sx u<|.ref s.heap.objs.size) r)->
  ai U w J Y hz L m A N ρ s (du J) (newFields "slice" [x,y,.none]>>= λi=>standAt x1>>= λ_=>subscriptTail value sx u i) r:=by
  intro u r h Q E e;refine aL<|wpAny_newObj_type ?_ (by size_fits);refine aC<|cg ?_;refine aP (Z.Af (h':=s.heap.push {cls:=.type "slice",data:=.fields #[x,y,.none]}) λb o e=>Qu _ e) λz M=>?_;exact h {s with heap:=s.heap.push {cls:=.type "slice",data:=.fields #[x,y,.none]}} (Heap.IsSliceOf.new _ _ _ _) z M Q E (ms.Aa (tk:=s.toks) z M e)
 cases a with
 |G l=>
  refine VR.Ad W λt=>ai.Ag λi C=>ai.Ag λj D=>ai.Ab λd=>aT (jP K C l.length<|QO _) λlo pl F=>aT (jP P D l.length<|Qd _) λhi G I=>key λf g z M=>ai.Ac z λQ E e=>tail_any (typeIs_bytes f _ _) FB.slot_bytes_getitem.lookup (getItem_meets (typeIs_bytes f _ _) dd FB.slot_bytes_getitem FB.entry_bytes_getitem (FB.args_bytes_getitem_2 _ _) (PySem.W.KBc.meets_slice2 _ _ _ pl G) ⟨g,Qa (PySem.W.KBc.size_picked_le _ _ _)<|dm d,λt' k=>?_⟩)<|hs _ _;exact e _ _<|af (PySem.W.KBc.picked_eq ..)<|af (show l.toArray.size=l.length from Zc ..)<|af (F ..)<|af (I ..)<|cI (aaZ ..)<|.Af _ _
 |B i0=>
  refine ai.Aj (t:=λu=>newFields "slice" [x,y,.none]>>= λi=>standAt x1>>= λ_=>subscriptTail value sx u i) Z W λo p ho hp R=>?_
  cases o with
  |A l=>
   refine ai.Ag λi C=>ai.Ag λj D=>ai.Ab λd=>aT (jP K C l.length<|QO _) λlo pl F=>aT (jP P D l.length<|Qd _) λhi G I=>key λf g z M=>aP (z.st.Ac _ _ _ ho hp) λ_ z5=>cM z5 λvs n v hr=>?_;haveI B:=hr.Aa;haveI hsz:vs.toArray.size=l.length:=Zc.trans B;haveI hL:f.heap.IsList p.1 vs.toArray:=⟨_,v,rfl,n,rfl⟩;refine ai.Ae z (hr.As i j) λQ E e=>tail_any hL.typeIs slot_list_getitem.lookup (wpAny_getItem_list_slice hL g pl G .none nofun ?_<|Qa (Qk hsz)<|dm d)<|hs _ _;haveI q:=e f.toks;rw [aaZ,B] at q;exact af (slicePick_plain ..)<|af (hsz ..)<|af (F ..)<|af (I ..) q
  |D l=>
   refine ai.Ag λi C=>ai.Ag λj D=>ai.Ab λd=>aT (jP K C l.length<|QO _) λlo pl F=>aT (jP P D l.length<|Qd _) λhi G I=>key λf g z M=>aP (z.st.Ac _ _ _ ho hp) λ_ v=>ai.Ap (ob:=BA.Ai<|bM i j l) z rfl (λM e=>⟨rfl,e⟩) λQ E e=>tail_any ⟨_,v,rfl⟩ BA.Aa.lookup (getItem_meets ⟨_,v,rfl⟩ dd BA.Aa BA.Ac (BA.Ap _ _) (BA.AD l _ _ pl G) ⟨v,g,Qa (PySem.W.KBc.size_picked_le _ _ _)<|dm d,?_⟩)<|hs _ _;exact af (PySem.W.KBc.picked_eq ..)<|af (show l.toArray.size=l.length from Zc ..)<|af (F ..)<|af (I ..)<|cI (aaZ ..)<|e _
  |_=>exact ai.Aa
 |_=>exact ai.Aa
end
end
section
structure gJ(sc:Scope)(env:Env)(L:Addr):Prop where
 Aa:env.scope=sc
 Ab:sc.kind=.function
 Ac:env.locals=L
 Ad:env.globals=mainGlobals
 Ae:env.builtins=builtinsNs
structure Wd(J:Nat->Value)(Y:Str->Option Addr)(K:Frag)(mg mb:Str->Option Value)(hz:B0)(A:Around):Prop extends aba J Y K hz A where
 g:hz.Ns mainGlobals mg
 b:hz.Ns builtinsNs mb
 Ad:∀x i,iu x aA 0=some i->mg x=some (J i)
 Ag:∀x,gX x eP=true->mg x=none/\mb x=bootBuiltins x
 Ae:∀i,keepIn K (J i)=true
def LR(J:Nat->Value)(sc:Scope)(m:Str->Option Value)(l:Lc)(ρ:List (Addr×Addr))(h:Heap):Prop:=∀x i v,jr sc x=some i->l i=some v->∃u,m x=some u/\VR J ρ h u v
section
variable {U:Program} {w:World} {J:Nat->Value} {Y:Str->Option Addr} {hz:B0} {h h':Heap} {ρ ρ':List (Addr×Addr)} {H H':Hp} {L:Addr} {m:Str->Option Value} {A:Around} {N:Heap->Heap->Addr->Str->Str->Prop}
 {α β γ δ:Type} {s:Shared} {R:List (Addr×Addr)->Heap->α->β->Prop} {R':List (Addr×Addr)->Heap->γ->δ->Prop} {E:Value->Shared->Prop}
theorem LR.Aa(S:Sr U w J Y hz.toHeap ρ H h)(n:h.Ns L m)(x:Mv L ρ h ρ' h')(r:LR J sc m l ρ h):LR J sc m l ρ' h':=λy i v c d=>aT (r y i v c d) λu a b=>bv u a<|b.Ab S n x
theorem tf:∀{k i:Nat},iu x r k=some i->k<=i:=by
 induction r with
 |nil=>exact λe=>ar e
 |cons z r a=>
  intro k i e;haveI e:(if vG z x=true then some k else iu x r (k+1))=some i:=e
  by_cases q:vG z x=true
  ·rw [Qh q] at e;haveI b:=Qb e;exact Qk b
  ·rw [Qe q] at e;exact Nat.le_of_succ_le<|a e
theorem wj:∀{k i:Nat},iu x l k=some i->iu y l k=some i->x=y:=by
 induction l with
 |nil=>exact λe=>ar e
 |cons z r c=>
  intro k i e a;haveI e:(if vG z x=true then some k else iu x r (k+1))=some i:=e;haveI a:(if vG z y=true then some k else iu y r (k+1))=some i:=a
  by_cases q:vG z x=true
  ·rw [Qh q] at e;injection e with z2;subst z2
   by_cases b:vG z y=true
   ·exact cI (iw.mp q)<|cI (iw.mp b) rfl
   ·rw [Qe b] at a;exact absurd (tf a)<|Nat.not_succ_le_self _
  ·rw [Qe q] at e
   by_cases b:vG z y=true
   ·rw [Qh b] at a;haveI d:=Qb a;subst d;exact absurd (tf e)<|Nat.not_succ_le_self _
   ·rw [Qe b] at a;exact c e a
theorem acz(e:jr sc x=some i)(a:jr sc y=some i):x=y:=
 ahl e λ_ _ e=>uC e λ_ e=>ahl a λ_ _ a=>uC a λ_ a=>wj e a
theorem jX(e:jr sc x=some i):sc.names.lookup x=some .local:=
 ahl e λk a e=>uC e λq _=>by
  rw [kl] at a;refine af a ?_
  cases k<;>first|rfl|injection q
theorem mu(e:zg sc x=true):sc.names.lookup x=some .globalImplicit:=by
 unfold zg at e;rw [kl] at e
 cases a:sc.names.lookup x with
 |none=>rw [a] at e;injection e
 |some k=>rw [a] at e;cases k<;>first|rfl|injection e
theorem LR.Ac(r:LR J sc m l ρ h)(e:jr sc x=some i)(f:VR J ρ h u v):LR J sc (λy=>if y=x then some u else m y) (l.Aa i v) ρ h:=λy j z d c=>by
 unfold Lc.Aa at c
 by_cases q:j=i
 ·subst q;rw [Qh rfl] at c;haveI g:=Qb c;subst g;haveI:=acz d e;subst this;exact bv u (by simp) f
 ·rw [Qe q] at c;have k:y≠x:=λz=>by subst z;rw [e] at d;haveI n:=Qb d;subst n;exact q rfl
  exact aT (r y j z d c) λo a b=>bv o (by simpa [k] using a) b
variable (U w J Y hz L A N)
def tj(c:CF):Prop:=∀x args vs H ρ (s:Shared) m,FS U w J Y hz L m ρ H s.heap->bN J ρ s.heap vs args->ai U w J Y hz L m A N ρ s (du J) (call (J x) vs) (c x args H)
def vH:Prop:=∀f,gX f eP=true->∃v,bootBuiltins f=some v/\((∃id,v=.builtin id)∨∃T,v=.type T)/\
 ∀args vs H ρ (s:Shared) m,FS U w J Y hz L m ρ H s.heap->bN J ρ s.heap vs args->ai U w J Y hz L m A N ρ s (du J) (call v vs) (jb f args H)
noncomputable def gY(name:Str):String:=if name="append" then "list.append" else if name="get" then "dict.get" else "dict.update"
def abb:Prop:=∀name a args u vs H ρ (s:Shared) m,FS U w J Y hz L m ρ H s.heap->VR J ρ s.heap u a->bN J ρ s.heap vs args->ai U w J Y hz L m A N ρ s (du J) (call (.builtin<|gY name)<|u::vs) (we a name args H)
variable {U w J Y hz L A N}
theorem wk{_:Decidable p}:be p (AM.Ab ()) H=.Ab∨∃H',be p (AM.Ab ()) H=.ok () H':=by
 by_cases q:p
 ·exact .inr ⟨H,by rw [be,Qh q];rfl⟩
 ·exact .inl (by rw [be,Qe q];rfl)
theorem acA{n:Str}:wg v n H=.Ab∨∃H',wg v n H=.ok () H':=by
 cases v with
 |B i=>
  show(H[i]?.elim bJ.Ab λo=>.ok o H).Aa _=_∨∃H',(H[i]?.elim bJ.Ab λo=>.ok o H).Aa _=_
  cases H[i]? with
  |none=>exact .inl rfl
  |some o=>
   cases o with
   |A l=>exact wk
   |B l e=>exact wk
   |_=>exact .inl rfl
 |_=>exact .inl rfl
theorem zE(Z:FS U w J Y hz L m ρ H s.heap)(r:VR J ρ s.heap u a)(e:wg a name H=.ok () H'):H'=H/\∃p:Addr×Addr,u=.ref p.1/\∃T,PlainAttrs T/\Slot T name (gY name)/\typeOf (.builtin<|gY name)=pure (.type "method_descriptor")/\s.TypeIs (.ref p.1) T/\(∃ob,s.heap.get? p.1=some ob/\ob.dict=none):=by
 cases a with
 |B i=>
  refine oB e λo t e=>eI (r.at Z t) λp v y R=>?_;subst v
  cases o with
  |A l=>
   refine mV e λq e=>?_;subst q;haveI _:=(bJ.ok.inj e).1;haveI z8:=(bJ.ok.inj e).2;subst z8;exact aP R λ_ x=>cM x λvs n c _=>⟨rfl,p,rfl,"list",PySem.F.plainAttrs_list,PySem.F.slot_list_append,PySem.F.type_list_append,bv _ c rfl,_,c,rfl⟩
  |B l ep=>
   refine mV e λq e=>?_;injection e with _ z8;subst z8;refine aP R λ_ f=>cM f λkvs z g _=>dN g λo' es c k _=>?_;haveI d:∀{n:Str},Slot "dict" n (gY n)->typeOf (.builtin<|gY n)=pure (.type "method_descriptor")->H=H/\∃j:Addr×Addr,Value.ref p.1=.ref j.1/\∃T,PlainAttrs T/\Slot T n (gY n)/\typeOf (.builtin<|gY n)=pure (.type "method_descriptor")/\s.TypeIs (.ref j.1) T/\(∃ob,s.heap.get? j.1=some ob/\ob.dict=none):=
    λa b=>⟨rfl,p,rfl,"dict",PySem.F.plainAttrs_dict,a,b,bv _ c k.1,_,c,k.2.1⟩
   rcases q with rfl|rfl
   ·exact d PySem.F.slot_dict_get PySem.F.type_dict_get
   ·exact d PySem.F.slot_dict_update PySem.F.type_dict_update
  |_=>exact qy e
 |_=>exact qy e
end
end
section
section
variable {U:Program} {w:World} {J:Nat->Value} {Y:Str->Option Addr} {hz:B0} {h h':Heap} {ρ ρ':List (Addr×Addr)} {H H':Hp} {L:Addr} {m mg mb:Str->Option Value} {A:Around} {N:Heap->Heap->Addr->Str->Str->Prop}
 {α β γ δ:Type} {s:Shared} {R:List (Addr×Addr)->Heap->α->β->Prop} {R':List (Addr×Addr)->Heap->γ->δ->Prop} {E:Value->Shared->Prop} {K:Frag} {sc:Scope} {env:Env} {c:CF}
def alO(J:Nat->Value):List (Addr×Addr)->Heap->List Value->List V->Prop:=λρ h a b=>bN J ρ h a b
def Ev(U:Program)(w:World)(J:Nat->Value)(Y:Str->Option Addr)(hz:B0)(L:Addr)(A:Around)(N:Heap->Heap->Addr->Str->Str->Prop)(sc:Scope)(env:Env)(c:CF)(t:Sem Value)(x:X):Prop:=
 ∀s ρ H m l,FS U w J Y hz L m ρ H s.heap->LR J sc m l ρ s.heap->ai U w J Y hz L m A N ρ s (du J) t (ak c x l H)
def Evs(U:Program)(w:World)(J:Nat->Value)(Y:Str->Option Addr)(hz:B0)(L:Addr)(A:Around)(N:Heap->Heap->Addr->Str->Str->Prop)(sc:Scope)(env:Env)(c:CF)(t:Sem (List Value))(x:List X):Prop:=
 ∀s ρ H m l,FS U w J Y hz L m ρ H s.heap->LR J sc m l ρ s.heap->ai U w J Y hz L m A N ρ s (alO J) t (bK c x l H)
def Te(U:Program)(w:World)(J:Nat->Value)(Y:Str->Option Addr)(hz:B0)(L:Addr)(A:Around)(N:Heap->Heap->Addr->Str->Str->Prop)(sc:Scope)(env:Env)(c:CF)(t:Sem Bool)(x:X):Prop:=
 ∀s ρ H m l,FS U w J Y hz L m ρ H s.heap->LR J sc m l ρ s.heap->ai U w J Y hz L m A N ρ s (λ_ _ (a b:Bool)=>a=b) t (bj c x l H)
theorem mW:AM.Aa a f H=(a H).Aa f:=rfl
theorem Ev.Aa(e:Ev U w J Y hz L A N sc env c t x)(Z:FS U w J Y hz L m ρ H s.heap)(d:LR J sc m l ρ s.heap)
 (k:∀ρ' H' h' tk a b,FS U w J Y hz L m ρ' H' h'->LR J sc m l ρ' h'->Mv L ρ s.heap ρ' h'->VR J ρ' h' a b->ai U w J Y hz L m A N ρ' {s with heap:=h',toks:=tk} R (f a) (g b H')):
 ai U w J Y hz L m A N ρ s R (t>>= f) (AM.Aa (ak c x l) g H):=by
 exact af mW<|ai.Ah (e s ρ H m l Z d) λb H' _ ρ' h' tk a i M r=>k ρ' H' h' tk a b i (d.Aa Z.st Z.ns M) M r
theorem Ev.Ac(e:Ev U w J Y hz L A N sc env c t x)(vs:List Value):Ev U w J Y hz L A N sc env c (holding vs t) x:=λs ρ H m l Z a=>(e s ρ H m l Z a).Ad
theorem tm(h:abc a=some x):Ev U w J Y hz L A N sc env c (eval (.Constant a k pos) env) x:=by
 intro s ρ H m l Z b
 cases a with
 |none=>haveI h:=Qb h;subst h;exact ai.Ac Z λQ E e=>Constant_none<|e _ s.toks .Ai
 |bool _=>haveI h:=Qb h;subst h;exact ai.Ac Z λQ E e=>Constant_bool<|e _ s.toks<|.Aj _
 |int _=>haveI h:=Qb h;subst h;exact ai.Ac Z λQ E e=>λ_ _ _=>e _ _<|.Ac _ _
 |str _=>haveI h:=Qb h;subst h;exact ai.Ac Z λQ E e=>Calls.Constant_str<|e _ _<|.Am _ _
 |bytes _=>haveI h:=Qb h;subst h;exact ai.Ac Z λQ E e=>Constant_bytes<|e _ _<|.Af _ _
 |_=>exact ar h
theorem aeG(h:(!vG a b)=true):(a ==b)=false:=by
 cases q:a ==b with
 |false=>rfl
 |true=>rw [iw.mpr<|eq_of_beq q] at h;injection h
@[elab_as_elim] theorem abd{G:X->Prop}(h:afB sc aA n=some x)(b:(n ==("__debug__":Str))=false->∀i,jr sc n=some i->G (.A i))(d:(n ==("__debug__":Str))=false->∀j,zg sc n=true->iu n aA 0=some j->G (.F j)):G x:=
 dP h λa h=>by
  cases q:jr sc n with
  |some i=>rw [q] at h;injection h with h;subst h;exact b (aeG a) i q
  |none=>rw [q] at h;exact dP h λe h=>mw h λj f=>d (aeG a) j e f
theorem wn(D:Wd J Y K mg mb hz A)(V:gJ sc env L){x:X}(h:afB sc aA n=some x):Ev U w J Y hz L A N sc env c (eval (.Name n pos) env) x:=by
 intro s ρ H m l Z f;have b:env.scope.kind=.function:=by exact af V.Aa V.Ab
 refine abd h (λa i d=>?_) λa j g k=>?_
 ·refine ai.Ag λv o=>aT (f n i v d o) λu p r=>?_;have q:s.heap.Ns env.locals m:=by refine af V.Ac ?_;exact Z.ns
  exact ai.Ac Z λQ E e=>wpAny_Name (wpAny_loadName_local b (by show env.scope.names.lookup n=_;exact af V.Aa<|jX d) q p<|e _ s.toks r) a
 ·have G:s.heap.Ns env.globals mg:=by exact af V.Ad<|D.g.keeps Z.st.Aa
  exact ai.Ac Z λQ E e=>Name_function_global b (by show env.scope.names.lookup n=_;exact af V.Aa<|mu g) (loadGlobal_global G (D.Ad n j k)<|e _ s.toks .As) a
theorem vI(h:pI o=false):attributeBase o a env (eval o env)=eval o env:=by
 cases o<;>first|rfl|injection h
theorem mX(D:Wd J Y K mg mb hz A)(d:pI o=false)(f:gX a bE=true)(e:Ev U w J Y hz L A N sc env c (eval o env) x):Ev U w J Y hz L A N sc env c (eval (.Attribute o a pos) env) (.L x a):=by
 intro s ρ H m l Z i;exact af (arm_eval_Attribute ..)<|af (vI d ..)<|e.Aa Z i λρ' H' h' tk u b j k M r=>ai.Af<|(uD (ex:=true) (N:=N) (s:={s with heap:=h',toks:=tk}) D.toaba j r f).Ar λQ E g=>aC<|bA<|dg g (λy n q=>jt<|Qc<|wpAny_letTemporaryGo<|Qp q) λ_ _ x=>x
theorem aid(h:∀a b c d,i≠.Slice a b c d)(o v:Value):subscripted i false o v=operate [o,v] (getItem o v):=by
 cases i with
 |Slice=>exact absurd rfl<|h _ _ _ _
 |_=>rfl
theorem afC(h:∀a b c d,i≠.Slice a b c d)(e:Ev U w J Y hz L A N sc env c (eval o env) x)(t:Ev U w J Y hz L A N sc env c (eval i env) y):Ev U w J Y hz L A N sc env c (eval (.Subscript o i pos) env) (.H x y):=by
 intro s ρ H m l Z z;haveI:eval (.Subscript o i pos) env=(eval o env>>= λu=>holding [u] (eval i env)>>= λv=>standAt pos>>= λ_=>subscriptTail o i u v):=rfl;exact af this<|e.Aa Z z λρ' H' h' tk u b g j M r=>(t.Ac [u]).Aa (s:={s with heap:=h',toks:=tk}) g j λp B k f v F n q C D=>ai.Af<|acB (s:={s with heap:=k,toks:=f}) n (r.Ab g.st g.ns C) D<|aid h
end
end
section
section
variable {U:Program} {w:World} {J:Nat->Value} {Y:Str->Option Addr} {hz:B0} {h h':Heap} {ρ ρ':List (Addr×Addr)} {H H':Hp} {L:Addr} {m mg mb:Str->Option Value} {A:Around} {N:Heap->Heap->Addr->Str->Str->Prop}
 {α β γ δ:Type} {s:Shared} {R:List (Addr×Addr)->Heap->α->β->Prop} {R':List (Addr×Addr)->Heap->γ->δ->Prop} {E:Value->Shared->Prop} {K:Frag} {sc:Scope} {env:Env} {c:CF}
theorem ai.Ax{T:Sem γ}{f:α->Sem γ}(j:ai U w J Y hz L m A N ρ s R t r)
 (p:∀b H',r=.ok b H'->∀ρ' h' tk a,FS U w J Y hz L m ρ' H' h'->Mv L ρ s.heap ρ' h'->R ρ' h' a b->ai U w J Y hz L m A N ρ' {s with heap:=h',toks:=tk} R' (f a) (g b H'))
 (q:∀Q E,dz (model U w) A t (λa d=>(∃ρ' H',FS U w J Y hz L m ρ' H' d.heap)/\dz (model U w) A (f a) Q E d) E s->dz (model U w) A T Q E s):
 ai U w J Y hz L m A N ρ s R' T (r.Aa g):=λQ E e=>by
 refine q Q E<|j _ _ ?_
 cases r with
 |ok b H1=>exact λi j l a n o u=>⟨fK i H1 n,p b H1 rfl i j l a n o u Q E<|ms.Aa n o e⟩
 |Ac k x H1=>exact e
 |Ab=>exact e
theorem afE(e:Ev U w J Y hz L A N sc env c (eval a env) x)(o:Ev U w J Y hz L A N sc env c (eval b env) y):
 Ev U w J Y hz L A N sc env c (eval (.BinOp a op b pos) env) (.E op x y):=by
 intro s ρ H m l Z p;exact af (arm_eval_BinOp ..)<|e.Aa Z p λρ' H' h' tk u b f g M r=>(o.Ac [u]).Aa (s:={s with heap:=h',toks:=tk}) f g λk q i d v B j n t z=>ai.Af<|(afD (s:={s with heap:=i,toks:=d}) j (r.Ab f.st f.ns t) z).Ak
theorem afF(e:Ev U w J Y hz L A N sc env c (eval a env) x):
 Ev U w J Y hz L A N sc env c (eval (.UnaryOp .USub a pos) env) (.T x):=by
 intro s ρ H m l Z d;refine af (arm_eval_UnaryOp ..)<|e.Aa Z d λρ' H' h' tk u b f g M r=>ai.Af<|ai.Ad ?_
 cases b with
 |A i=>exact VR.Aa r λ_=>ai.Ac (s:={s with heap:=h',toks:=tk}) f λQ E e=>neg_int<|e _ _<|.Ac _ _
 |_=>exact ai.Aa
theorem tn(op:CmpOp)(h:∀es k p,b≠.Set es k p):behindInMarks op b=false:=by
 cases b with
 |Set=>exact absurd rfl<|h _ _ _
 |_=>rfl
theorem abf(D:Wd J Y K mg mb hz A)(t:∀es k p,b≠.Set es k p)(e:Ev U w J Y hz L A N sc env c (eval a env) x)(z:Ev U w J Y hz L A N sc env c (eval b env) y):
 Ev U w J Y hz L A N sc env c (eval (.Compare a [op] [b] pos) env) (.I op x y):=by
 intro s ρ H m l Z B;haveI q:eval (.Compare a [op] [b] pos) env=(eval a env>>= λu=>holding [u] (markedBehindIn op b<|eval b env)>>= λv=>standAt pos>>= λ_=>operate [u,v]<|compareOp op u v):=rfl;exact af q<|af (markedBehindIn_of_false<|tn op t)<|e.Aa Z B λρ' H' h' tk u b f g M r=>(z.Ac [u]).Aa (s:={s with heap:=h',toks:=tk}) f g λn C i d v I j o F G=>ai.Af<|(abe (s:={s with heap:=i,toks:=d}) D.toaba j (r.Ab f.st f.ns F) G).Ak
theorem zF(g:Te U w J Y hz L A N sc env c (isTrue t env<|eval t env) z)(e:Ev U w J Y hz L A N sc env c (eval a env) x)(i:Ev U w J Y hz L A N sc env c (eval b env) y):
 Ev U w J Y hz L A N sc env c (eval (.IfExp t a b pos) env) (.O z x y):=by
 intro s ρ H m l Z d;refine af (arm_eval_IfExp ..)<|ai.Ah (g s ρ H m l Z d) λr H' _ ρ' h' tk u f M j=>?_;subst j
 cases u
 ·exact i {s with heap:=h',toks:=tk} ρ' H' m l f (d.Aa Z.st Z.ns M)
 ·exact e {s with heap:=h',toks:=tk} ρ' H' m l f (d.Aa Z.st Z.ns M)
inductive wo(U:Program)(w:World)(J:Nat->Value)(Y:Str->Option Addr)(hz:B0)(L:Addr)(A:Around)(N:Heap->Heap->Addr->Str->Str->Prop)(sc:Scope)(env:Env)(c:CF):List Expr->List X->Prop
 |Ab:wo U w J Y hz L A N sc env c [] []
 |Aa {e:Expr}{x:X}{es:List Expr}{xs:List X}:Ev U w J Y hz L A N sc env c (eval e env) x->Te U w J Y hz L A N sc env c (isTrue e env<|eval e env) x->(∀z p,e≠.Starred z p)->
  wo U w J Y hz L A N sc env c es xs->wo U w J Y hz L A N sc env c (e::es) (x::xs)
theorem fG(h:∀z p,e≠.Starred z p):starEach (e::es) env=(false,eval e env)::starEach es env:=by
 cases e<;>first|rfl|exact absurd rfl<|h _ _
theorem qz:spliced ((false,x)::rest)=(x>>= λv=>holding [v] (spliced rest)>>= λvs=>pure<|v::vs):=rfl
theorem ie:backTo pos ((false,x)::rest)=(false,x)::backTo pos rest:=rfl
theorem pJ(n:wo U w J Y hz L A N sc env c es xs):Evs U w J Y hz L A N sc env c (spliced<|backTo pos<|starEach es env) xs:=by
 induction n with
 |Ab=>
  intro s ρ H m l Z j;exact ai.Ai (m:=m) Z .Ad
 |Aa o x hs y p=>
  intro s ρ H m l Z j;exact af (fG hs)<|af ie<|af qz<|o.Aa Z j λρ' H' h' tk u b e f M r=>af mW<|ai.Ah (p {s with heap:=h',toks:=tk} ρ' H' m l e f).Ad λz q _ k g d a i t v=>ai.Ai (s:={s with heap:=g,toks:=d}) i<|.Ab (r.Ab e.st e.ns t) v
theorem lQ:∀{H H':Hp} {vs:List V},bK c xs l H=.ok vs H'->vs.length=xs.length:=by
 induction xs with
 |nil=>intro H H' vs e;injection e with z1;subst z1;rfl
 |cons x xs d=>
  intro H H' vs e;haveI e:AM.Aa (ak c x l) (λv=>AM.Aa (bK c xs l) λvs=>AM.Ab<|v::vs) H=.ok vs H':=e;refine wq e λa H1 _ e=>wq e λb f h e=>?_;injection e with z;subst z;exact Qt (·+1)<|d h
theorem wo.Ac(a:wo U w J Y hz L A N sc env c es xs):es.length=xs.length:=by
 induction a with
 |Ab=>rfl
 |Aa _ _ _ _ b=>exact Qt (·+1) b
theorem zG(n:es.length<=1000)(i:wo U w J Y hz L A N sc env c es xs):Ev U w J Y hz L A N sc env c (eval (.Tuple es k pos) env) (.D xs):=by
 intro s ρ H m l Z p;refine af (arm_eval_Tuple ..)<|ai.Af<|ai.Ah (pJ i s ρ H m l Z p) λvs H' q ρ' h' tk j d M r=>?_;haveI f:j.length<=1000:=by(refine af (bN.Aa r) ?_;refine af (lQ q) ?_;refine cI i.Ac ?_);exact n
 intro Q E e;refine aP (d.Af (h':=h'.push {cls:=.type "tuple",data:=.seq j.toArray}) λb o e=>Qu _ e) λg a=>?_;refine jt<| wpAny_newTuple (s:={s with heap:=h',toks:=tk}) ?_<|Qa (Qk Zc)<|Qa f lb
 refine e ρ' _ _ _ g a<|.Ax (cz _ (QI _ rfl) rfl ⟨0,rfl⟩)<|bN.Ac d.st d.ns a r
theorem acC(d:es.length<=1000)(b:wo U w J Y hz L A N sc env c es xs):Ev U w J Y hz L A N sc env c (eval (.List es pos) env) (.M xs):=by
 intro s ρ H m l Z e;refine af (arm_eval_List ..)<|ai.Af<|ai.Ah (pJ b s ρ H m l Z e) λvs H' f ρ' h' tk g i M r=>?_;haveI a:g.length<=1000:=by(refine af (bN.Aa r) ?_;refine af (lQ f) ?_;refine cI b.Ac ?_);exact d
 exact ai.Ae (s:={s with heap:=h',toks:=tk}) i r λQ E k=>wpAny_newList (k _)<|Qa (Qk Zc)<|Qa a lb
end
end
section
section
variable {U:Program} {w:World} {J:Nat->Value} {Y:Str->Option Addr} {hz:B0} {h h':Heap} {ρ ρ':List (Addr×Addr)} {H H':Hp} {L:Addr} {m mg mb:Str->Option Value} {A:Around} {N:Heap->Heap->Addr->Str->Str->Prop}
 {α β γ δ:Type} {s:Shared} {R:List (Addr×Addr)->Heap->α->β->Prop} {R':List (Addr×Addr)->Heap->γ->δ->Prop} {E:Value->Shared->Prop} {K:Frag} {sc:Scope} {env:Env} {c:CF}
theorem rH{k:Str}(n:(kvs.map (·.1)).Nodup):((stored kvs k v).map (·.1)).Nodup:=by
 unfold stored
 by_cases d:(kvs.any λkv=>decide (kv.1=k))=true
 ·exact af (Qh d ..)<|af (keys_map_store ..) n
 ·rw [Qe d,ZL,List.nodup_append];refine⟨n,List.nodup_cons.mpr ⟨Zx,List.nodup_nil⟩,λa g b i e=>d ?_⟩;exact aT (Zz.mp g) λkv f j=>List.any_eq_true.mpr<|bv kv f<|QY<|j.trans<|e.trans<|QM.mp i
theorem gw.Ag{l r:List (Str×V)}(a:gw J ρ h kvs l)(b:gw J ρ h d r)(n:(kvs.map (·.1)).Nodup):gw J ρ h (merged kvs d) (aZ r l):=by
 induction b generalizing kvs l with
 |Ae=>exact a
 | @Ac x u y d r b _ e=>exact e (gw.Af b a n)<|rH n
theorem gw.An{ks:List Str}(r:bN J ρ h b vs):gw J ρ h (ks.zip b) (ks.zip vs):=by
 exact bN.Ae (P:=λb vs=>∀ks:List Str,gw J ρ h (ks.zip b)<|ks.zip vs) r (λks=>by(refine af List.zip_nil_right<|af List.zip_nil_right ?_);exact .Ae) (λa _ d ks=>by
  cases ks with
  |nil=>exact .Ae
  |cons k ks=>exact .Ac a<|d ks) ks
def PR(U:Program)(w:World)(J:Nat->Value)(l:List Str):List (Addr×Addr)->Heap->List (Value×Value)->List V->Prop:=λρ h a b=>bN J ρ h (a.map (·.2)) b/\Carries (strKind U w) a (l.zip<|a.map (·.2))
@[elab_as_elim] theorem acD{G:Expr->Prop}(h:lR (some e)=some x)(k:∀n p,G<|.Constant (.str x) n p):G e:=by
 cases e with
 |Constant a n p=>
  cases a with
  |str y=>injection h with h;subst h;exact k n p
  |_=>exact ar h
 |_=>exact ar h
set_option tactic.hygienic true in
theorem zH:∀{ks:List (Option Expr)} {l:List Str} {vs:List Expr} {xs:List X},ks.mapM lR=some l->ks.length=vs.length->wo U w J Y hz L A N sc env c vs xs->
 ∀s ρ H m d,FS U w J Y hz L m ρ H s.heap->LR J sc m d ρ s.heap->ai U w J Y hz L m A N ρ s (PR U w J l) (evalPairs<|pairTrees ks vs env pos) (bK c xs d H):=by
 intro ks
 induction ks with
 |nil=>
  intro l vs xs i p t s ρ H m d Z u
  cases t with
  |Aa=>injection p
  |Ab=>haveI P:=Qb i;subst P;exact ai.Ai Z ⟨.Ad,trivial⟩
 |cons k ks W=>
  intro l vs xs i p t s ρ H m d Z u
  cases t with
  |Ab=>injection p
  |Aa he ht hs hr=>
   rename_i e x es xs
   rw [List.mapM_cons] at i;refine bo i λf j i=>bo i λl' y e0=>?_;haveI z3:=Qb e0;subst z3
   cases k with
   |none=>exact ar j
   |some k=>
    refine acD j λD F=>?_;haveI q:evalPairs (pairTrees (some (.Constant (.str f) D F)::ks) (e::es) env pos)=(eval (.Constant (.str f) D F) env>>= λkv=>holding [kv] (eval e env>>= λx=>standAt pos>>= λ_=>pure x)>>= λn=>holding [kv,n] (evalPairs<|pairTrees ks es env pos)>>= λr=>pure<|(kv,n)::r):=rfl;refine af q ?_;intro Q E ee;refine aL<|Calls.Constant_str ?_;haveI g:ai U w J Y hz L m A N ρ {s with toks:=s.toks+1} (PR U w J<|f::l') (holding [.str f s.toks] (eval e env>>= λx=>standAt pos>>= λ_=>pure x)>>= λn=>holding [.str f s.toks,n] (evalPairs<|pairTrees ks es env pos)>>= λr=>pure<|(.str f s.toks,n)::r) (bK c (x::xs) d H):=by
     refine ai.Ah (R:=du J) (ai.Ad<|(he {s with toks:=s.toks+1} ρ H m d Z u).Ar λQ E h=>aC<|dg h (λv s' q=>aC<|cg<|aO q) λ_ _ x=>x) λb H' _ ρ' h' tk a z M r=>af mW<|ai.Ah (ai.Ad<|W y (Nat.succ.inj p) hr {s with heap:=h',toks:=tk} ρ' H' m d z (u.Aa Z.st Z.ns M)) λb' a5 _ G B o a' C M' I=>?_;refine ai.Ai (s:={s with heap:=B,toks:=o}) C ⟨.Ab (VR.Ab z.st z.ns M' r) I.1,strKind_is U w f _,rfl,I.2⟩
    exact g Q E ee
theorem rI{ks:List (Option Expr)}:∀{l:List Str},ks.mapM lR=some l->ks.all (·.isSome)=true/\l.length=ks.length:=by
 induction ks with
 |nil=>intro l h;haveI d:=Qb h;subst d;exact⟨rfl,rfl⟩
 |cons k ks b=>
  intro l h;rw [List.mapM_cons] at h;refine bo h λx f h=>bo h λl' a e=>?_;haveI g:=Qb e;subst g
  cases k with
  |none=>exact ar f
  |some k=>exact⟨(b a).1,Qt (·+1) (b a).2⟩
theorem gw.Ah(r:gw J ρ h kvs []):kvs=[]:=by cases r;rfl
theorem zI{G:Prop}(e:ms U w J Y hz L m N ρ s R (AM.Aa (Mine.bX i) f H) Q E)(k:∀o,H[i]?=some o->ms U w J Y hz L m N ρ s R (f o H) Q E->G):G:=by
 unfold AM.Aa Mine.bX at e
 cases q:H[i]? with
 |none=>rw [q] at e;exact e.elim
 |some o=>rw [q] at e;exact k o q e
theorem acF{ks:List (Option Expr)}{l:List Str}(G:ks.length=vs.length)(y:ks.length<=15)(I:ks.mapM lR=some l)(hL:wo U w J Y hz L A N sc env c vs xs):
 Ev U w J Y hz L A N sc env c (eval (.Dict ks vs pos) env) (.Q l xs):=by
 intro s ρ H m P Z lr
 by_cases W:ks=[]
 ·subst W;haveI z7:=Qb I;subst z7
  cases hL with
  |Aa=>injection G
  |Ab=>
   have q:eval (.Dict [] [] pos) env=(standAt pos>>= λ_=>newDict):=rfl;refine af q<|ai.Af ?_;haveI g:ai U w J Y hz L m A N ρ s (du J) (newDict) (jp (.B []<|some 0) H):=by
    refine ai.Ap (ob:={cls:=.type "dict",data:=.dict #[]}) Z rfl (λM e=>⟨rfl,[],0,aeA _ (#[]) e ⟨rfl,rfl,rfl⟩ rfl (by intro i h;exact absurd h<|Array.not_mem_empty i) .nil List.nodup_nil,λk e=>by injection e with z8;subst z8;rfl,.Ae⟩) λQ E k=>wpAny_newObj_type (k _) (by size_fits)
   exact g
 ·have f:=rI I;have z:l≠[]:=λe=>W<|List.length_eq_zero_iff.mp (by(refine cI f.2<|af e ?_);rfl);refine ip (List.exists_cons_of_ne_nil z) λB l' z9=>?_;subst z9;have C:=ahm.Ab s.heap;intro Q E e;refine acE f.1 G W y (aP (Z.Am (p:=(s.heap.objs.size,s.heap.objs.size)) (h':=s.heap.push {cls:=.type "dict",data:=.dict #[]}) (o':=.B []<|some 0) (λb o e=>Qu _ e) C C
   (λM=>⟨rfl,[],0,aeA _ (#[]) (QI _ rfl) ⟨rfl,rfl,rfl⟩ rfl (by intro i h;exact absurd h<|Array.not_mem_empty i) .nil List.nodup_nil,λk e=>by injection e with z10;subst z10;rfl,.Ae⟩)) λZ1 M1=>?_)
  haveI hi:(ρ++[(s.heap.objs.size,s.heap.objs.size)])[H.length]?=some (s.heap.objs.size,s.heap.objs.size):=Z.Ab _;refine zH I G hL {s with heap:=s.heap.push {cls:=.type "dict",data:=.dict #[]}} _ _ m P Z1 (lr.Aa Z.st Z.ns M1) _ _ ?_;haveI d:=ms.Aa (tk:=s.toks) Z1 M1 e
  replace d:ms U w J Y hz L m N _ _ (du J) ((bK c xs P<|H++[.B []<|some 0]).Aa _) Q E:=d
  cases hx:bK c xs P (H++[.B []<|some 0]) with
  |Ab=>rw [hx] at d;exact d
  |Ac k x H1=>rw [hx] at d;exact d
  |ok us H1=>
   rw [hx] at d;intro n h2 p a v M2 r;have u:n[H.length]?=some (s.heap.objs.size,s.heap.objs.size):=by
    refine aT M2.Ab λt a3 _=>?_;subst a3;refine af (Qj (Qg.mp hi).1) ?_;exact hi
   haveI e2:=ms.Aa (tk:=p) v M2 d;haveI d:ms U w J Y hz L m N n {s with heap:=h2,toks:=p} (du J) (AM.Aa (Mine.bX H.length) (λo=>oC AM.Ac o (dict:=λl _=>lC (AM.Aa (Mine.ml H.length<|.B (aZ ((B::l').zip us) []) none) λ_=>AM.Ab<|.B H.length) (λ_ _=>AM.Ac) l)) H1) Q E:=e2;refine zI d λo hO d=>?_
   cases o with
   |B l0 ep=>
    cases l0 with
    |cons _ _=>exact d.elim
    |nil=>
     refine aP (v.st.Ac _ _ _ hO u) λ_ a4=>dN a4 λkvs ek dk _ rk=>?_;obtain rfl:=rk.Ah;refine jt<| wpAny_storeAll (knd:=strKind U w) a ((B::l').zip<|a.map (·.2)) [] {s with heap:=h2,toks:=p} _ r.2 dk.dictOf ?_ λh3 a6 D=>?_
     ·refine Qa (m:=15) ?_ lb;exact af (List.length_nil ..)<|af (Nat.zero_add ..)<|af (List.length_zip ..)<|Qa (Nat.min_le_left _ _)<|f.2 ▸y
     ·haveI a7:H.length<H1.length:=(Qg.mp hO).1;haveI d:ms U w J Y hz L m N n {s with heap:=h2,toks:=p} (du J) (AM.Aa (Mine.ml H.length<|.B (aZ ((B::l').zip us) []) none) (λ_=>AM.Ab<|.B H.length) H1) Q E:=d;rw [mW,Mine.ml,Qh a7] at d;refine ze a6 λo3 a8 F j=>?_
      replace j:Heap.DictAt (strKind U w) h3 s.heap.objs.size (merged []<|(B::l').zip<|a.map (·.2)) F:=fK o3 a8 j
      refine aP (v.Ar (h':=h3) (o':=.B (aZ ((B::l').zip us) []) none) u (v.Ae (bw u) D) (λb o hb _ _ hh=>(D.2 b hb).trans hh)
       (λM=>⟨rfl,_,F,j,(λk e=>nomatch e),gw.Ag .Ae (gw.An<|bN.Ac v.st v.ns M r.1) List.nodup_nil⟩)) λZ3 M3=>?_
      exact d n h3 _ _ Z3 M3<|VR.An (p:=(s.heap.objs.size,s.heap.objs.size)) u
   |_=>exact d.elim
end
end
section
section
variable {U:Program} {w:World} {J:Nat->Value} {Y:Str->Option Addr} {hz:B0} {h h':Heap} {ρ ρ':List (Addr×Addr)} {H H':Hp} {L:Addr} {m mg mb:Str->Option Value} {A:Around} {N:Heap->Heap->Addr->Str->Str->Prop}
 {α β γ δ:Type} {s:Shared} {R:List (Addr×Addr)->Heap->α->β->Prop} {R':List (Addr×Addr)->Heap->γ->δ->Prop} {E:Value->Shared->Prop} {K:Frag} {sc:Scope} {env:Env} {c:CF}
theorem wo.Ad(a:wo U w J Y hz L A N sc env c es xs):(backTo pos<|starEach es env).any (·.1)=false:=by
 induction a with
 |Ab=>rfl
 |Aa _ _ hs _ b=>(refine af (fG hs)<|af ie<|af List.any_cons<|af b ?_);rfl
def aie(U:Program)(w:World)(J:Nat->Value)(Y:Str->Option Addr)(hz:B0)(L:Addr)(m:Str->Option Value)(h:Heap):Prop:=∃ρ' H',FS U w J Y hz L m ρ' H' h
theorem rJ(o:wo U w J Y hz L A N sc env c es xs)(Z:FS U w J Y hz L m ρ H s.heap)(x:LR J sc m l ρ s.heap)
 (y:∀h,aie U w J Y hz L m h->∃k,(k=Keeper.frame∨k=Keeper.machine∨k=Keeper.boundFrame)/\Looks (model U w) h (keeperOf f) k)
 (n:∀vs H',bK c xs l H=.ok vs H'->∀ρ' h' tk i,FS U w J Y hz L m ρ' H' h'->Mv L ρ s.heap ρ' h'->bN J ρ' h' i vs->ai U w J Y hz L m A N ρ' {s with heap:=h',toks:=tk} (du J) (call f<|b++i) (g vs H')):
 ai U w J Y hz L m A N ρ s (du J) (callWith p2 f b (backTo pos<|starEach es env) []) ((bK c xs l H).Aa g):=by
 refine ai.Ax (f:=λi=>call f<|b++i) (pJ (pos:=pos) o s ρ H m l Z x) (λvs H' e ρ' h' tk i z M r=>n vs H' e ρ' h' tk i z M r) λQ E q=>?_;have B:(backTo pos<|starEach es env).any (·.1)=false:=o.Ad;refine mY (P:=aie U w J Y hz L m) B y ?_
 cases o with
 |Ab=>
  refine jt<| evalArgs_nil3 ⟨fK ρ H Z,?_⟩
  haveI t:dz (model U w) A (pure []) (λa d=>(∃ρ' H',FS U w J Y hz L m ρ' H' d.heap)/\dz (model U w) A (call f<|b++a) Q E d) E s:=q;intro u p j n v;exact(t u p j n v).2 u p j n v
 |Aa C D hs F=>
  rw [fG hs,ie] at q ⊢;exact mZ q
theorem km{id:String}(h:Heap):∃k,(k=Keeper.frame∨k=Keeper.machine∨k=Keeper.boundFrame)/\Looks M h (keeperOf<|.builtin id) k:=bv .machine (.inr<|.inl rfl) .now
theorem uE{id:String}(h:Heap):∃k,(k=Keeper.frame∨k=Keeper.machine∨k=Keeper.boundFrame)/\Looks M h (keeperOf<|.type id) k:=bv .machine (.inr<|.inl rfl) .now
theorem acG(D:Wd J Y K mg mb hz A)(C:tj U w J Y hz L A N c)(e:Ev U w J Y hz L A N sc env c (eval (.Name f p) env) x)(o:wo U w J Y hz L A N sc env c es xs):
 Ev U w J Y hz L A N sc env c (eval (.Call (.Name f p) es [] pos) env) (.G x xs):=by
 intro s ρ H m l Z t;haveI q:eval (.Call (.Name f p) es [] pos) env=(eval (.Name f p) env>>= λu=>callWith pos u [] (backTo pos<|starEach es env) []):=rfl;refine af q<|e.Aa Z t λρ' H' h' tk u b v g M r=>?_
 cases b with
 |H i=>
  exact VR.Ao r<|rJ (s:={s with heap:=h',toks:=tk}) o v g (λh y=>ip y λρ' H' F=>keeps_K (D.Ae i) h<|D.X.keeps F.st.Aa) λvs j _ a k d z n G B=>C i vs z j a {s with heap:=k,toks:=d} m n B
 |_=>exact ai.Aa
theorem zJ(D:Wd J Y K mg mb hz A)(V:gJ sc env L)(C:vH U w J Y hz L A N)(n:gX f eP=true)(o:zg sc f=true)(r:(f ==("__debug__":Str))=false)(t:wo U w J Y hz L A N sc env c es xs):
 Ev U w J Y hz L A N sc env c (eval (.Call (.Name f p) es [] pos) env) (.K f xs):=by
 intro s ρ H m l Z x;haveI q:eval (.Call (.Name f p) es [] pos) env=(eval (.Name f p) env>>= λu=>callWith pos u [] (backTo pos<|starEach es env) []):=rfl;refine af q<|eI (C f n) λv y d z=>aP (D.Ag f n) λF I=>?_;haveI M:env.scope.kind=.function:=by refine af V.Aa ?_;exact V.Ab
 have G:s.heap.Ns env.globals mg:=by exact af V.Ad<|D.g.keeps Z.st.Aa
 have B:s.heap.Ns env.builtins mb:=by exact af V.Ae<|D.b.keeps Z.st.Aa
 haveI g:ai U w J Y hz L m A N ρ s (du J) (callWith pos v [] (backTo pos<|starEach es env) []) ((bK c xs l H).Aa<|jb f):=
  rJ t Z x (λh _=>by rcases d with ⟨id,rfl⟩|⟨T,rfl⟩;exact km h;exact uE h) λvs i _ a j b P k M' W=>z vs P i a {s with heap:=j,toks:=b} m k W
 intro Q E e;exact aL<|Name_function_global M (by show env.scope.names.lookup f=_;exact af V.Aa<|mu o) (loadGlobal_builtin G F B (by exact af I y)<|g Q E e) r
theorem acH(C:abb U w J Y hz L A N)(P:pI o=false)(z:es.length<10)(W:Nat.beq ap.endLine pos.line=true)
 (e:Ev U w J Y hz L A N sc env c (eval o env) x)(B:wo U w J Y hz L A N sc env c es xs):
 Ev U w J Y hz L A N sc env c (eval (.Call (.Attribute o name ap) es [] pos) env) (.R x name xs):=by
 intro s ρ H m l Z lr;refine af (arm_eval_Call ..) ?_;refine af (vI P ..) ?_;refine e.Aa Z lr λρ' H' h' tk u b g k M r=>ai.Af ?_;refine af mW ?_;rcases acA (v:=b) (n:=name) (H:=H') with i|⟨H1,i⟩
 ·exact af i ai.Aa
 ·refine af i<|aP (zE (s:={s with heap:=h',toks:=tk}) g r i) λz1 D=>?_;subst z1;refine aT D λj z3 F=>?_;clear D;subst z3;refine bC F λT z7=>acu z7 λpa sl ty hT hd=>?_;clear F;haveI n:methodCallForm (es.length+([]:List Keyword).length) (backTo pos<|starEach es env) (backToKw pos<|keywordEach [] env)=true:=by
   haveI G:=B.Ad (pos:=pos);unfold methodCallForm;refine af (ZH ..)<|af (ZH ..)<|⟨⟨?_,rfl⟩,?_⟩
   ·rw [List.any_eq_false] at G;rw [Qx];intro y hy;haveI:=G y hy
    simpa using this
   ·simp [backToKw,keywordEach];exact Qr ‹_› lb
  haveI q:methodCall o name ap pos env (.ref j.1) (es.length+([]:List Keyword).length) (backTo pos<|starEach es env) (backToKw pos<|keywordEach [] env)=
   (holding [.ref j.1] (calleeOf true o env (.ref j.1) name)>>= λI=>methodCallPos true o env ap pos>>= λcp=>callWith cp I.1 I.2 (backTo pos<|starEach es env) []):=by
   unfold methodCall;exact af n rfl
  refine af q ?_;intro Q E ee;refine aL<|Zg<|getMethod_builtin (s:={s with heap:=h',toks:=tk}) hT pa sl ty (λa ea=>by haveI z5:=Value.ref.inj ea;subst z5;exact hd) ?_;haveI q2:methodCallPos true o env ap pos=pure pos:=by
   unfold methodCallPos;rw [Qh];haveI:ap.endLine=pos.line:=Nat.eq_of_beq_eq_true W;simp [this]
  refine aC (show dz _ _ (methodCallPos true o env ap pos) _ _ _ from ?_);exact af q2<|aO<|rJ (s:={s with heap:=h',toks:=tk}) (g:=we b name) B g k (λh _=>km h) (λvs p _ d t f us v M' r'=>C name b vs (.ref j.1) us p d {s with heap:=t,toks:=f} m v (r.Ab g.st g.ns M') r') Q E ee
theorem nc(Z:FS U w J Y hz L m ρ H s.heap)(r:VR J ρ s.heap u b):ai U w J Y hz L m A N ρ s (λ_ _ (a b:Bool)=>a=b) (truthy u) (di b H):=by
 cases b with
 |E b=>exact VR.Ak r<|ai.Ac Z λQ E k=>λ_ _ _=>k _ s.toks rfl
 |_=>exact ai.Aa
theorem ai.An(g:ai U w J Y hz L m A N ρ s R t r):ai U w J Y hz L m A N ρ s R t (r.Aa AM.Ab):=by
 cases r<;>exact g
theorem uF:boolOp pos op (x::y::r)=(x>>= λv=>standAt pos>>= λ_=>holding [v] (truthy v)>>= λt=>match op,t with
 | .And,false| .Or,true=>pure v
 |_,_=>boolOp pos op<|y::r):=rfl
set_option tactic.hygienic true in
theorem wr(C:wo U w J Y hz L A N sc env c es xs):Ev U w J Y hz L A N sc env c (eval (.BoolOp op es pos) env) (.P (op ==.And) xs):=by
 intro s ρ H m l Z q;refine af (arm_eval_BoolOp ..) ?_;show ai U w J Y hz L m A N ρ s (du J) _ (aia c _ xs l H)
 induction C generalizing s ρ H with
 |Ab=>exact ai.Aa
 |Aa y ht hs D F=>
  rename_i e x es xs
  cases D with
  |Ab=>exact ai.An (t:=eval e env)<|y s ρ H m l Z q
  |Aa G I P Q=>
   rename_i z W i o
   refine af (show evalEach (e::z::i) env=eval e env::eval z env::evalEach i env from rfl)<|af uF ?_;show ai U w J Y hz L m A N ρ s (du J) _ (AM.Aa (ak c x l) (λv=>AM.Aa (di v) λb=>if b=(op ==.And) then aia c (op ==.And) (W::o) l else AM.Ab v) H);refine y.Aa Z q λρ' H' h' tk u b j p M r=>ai.Af<|af mW<|ai.Ah (ai.Ad<|nc (s:={s with heap:=h',toks:=tk}) j r) λt k a0 f g d a n B ra=>?_;subst ra;haveI e1:=F {s with heap:=g,toks:=d} f k n (p.Aa j.st j.ns B);haveI e2:ai U w J Y hz L m A N f {s with heap:=g,toks:=d} (du J) (pure u) (AM.Ab b k):=ai.Ai (s:={s with heap:=g,toks:=d}) n<|r.Ab j.st j.ns B
   cases op<;>cases a<;>first|exact e2|exact e1
set_option tactic.hygienic true in
theorem uG(g:wo U w J Y hz L A N sc env c es xs):∀s ρ H m l,FS U w J Y hz L m ρ H s.heap->LR J sc m l ρ s.heap->ai U w J Y hz L m A N ρ s (λ_ _ (a b:Bool)=>a=b) (allTrue op es env) (ahk c (op ==.And) xs l H):=by
 intro s ρ H m l Z d
 induction g generalizing s ρ H with
 |Ab=>exact ai.Ai Z rfl
 |Aa p i hs q j=>
  rename_i e x es xs
  refine af (arm_allTrue_cons ..)<|ai.Ah (i s ρ H m l Z d) λt H' _ ρ' h' tk a f M k=>?_;subst k;haveI n:=j {s with heap:=h',toks:=tk} ρ' H' f (d.Aa Z.st Z.ns M);haveI o:ai U w J Y hz L m A N ρ' {s with heap:=h',toks:=tk} (λ_ _ (a b:Bool)=>a=b) (pure a) (AM.Ab a H'):=ai.Ai (s:={s with heap:=h',toks:=tk}) f rfl
  cases op<;>cases a<;>first|exact o|exact n
theorem wt(a:k=(op ==.And))(b:wo U w J Y hz L A N sc env c es xs):Te U w J Y hz L A N sc env c (isTrue (.BoolOp op es pos) env<|eval (.BoolOp op es pos) env) (.P k xs):=by
 intro s ρ H m l Z d;subst a;exact af (arm_isTrue_BoolOp ..)<|uG b s ρ H m l Z d
theorem zK(e:Te U w J Y hz L A N sc env c (isTrue a env<|eval a env) x):Te U w J Y hz L A N sc env c (isTrue (.UnaryOp .Not a pos) env<|eval (.UnaryOp .Not a pos) env) (.U x):=by
 intro s ρ H m l Z b;refine af (arm_isTrue_UnaryOp ..)<|ai.Ah (e s ρ H m l Z b) λt H' _ ρ' h' tk a d M f=>?_;subst f;exact ai.Ai (s:={s with heap:=h',toks:=tk}) d rfl
theorem zL(D:Wd J Y K mg mb hz A)(C:∀es k p,b≠.Set es k p)(e:Ev U w J Y hz L A N sc env c (eval a env) x)(F:Ev U w J Y hz L A N sc env c (eval b env) y):
 Te U w J Y hz L A N sc env c (isTrue (.Compare a [op] [b] pos) env<|eval (.Compare a [op] [b] pos) env) (.I op x y):=by
 intro s ρ H m l Z G;haveI q:isTrue (.Compare a [op] [b] pos) env (eval (.Compare a [op] [b] pos) env)=(eval a env>>= λu=>holding [u] (markedBehindIn op b<|eval b env)>>= λv=>standAt pos>>= λ_=>operate [u,v] (compareOp op u v)>>= λz=>holding [z]<|truthy z):=rfl;exact af q<|af (markedBehindIn_of_false<|tn op C)<|e.Aa Z G λρ' H' h' tk u b f g M r=>(F.Ac [u]).Aa (s:={s with heap:=h',toks:=tk}) f g λo I i d v b' j B P Q=>ai.Af<|af mW<|ai.Ah (abe (s:={s with heap:=i,toks:=d}) D.toaba j (r.Ab f.st f.ns P) Q).Ak λt H3 _ W h3 n z Z3 M3 rz=>ai.Ad<|nc (s:={s with heap:=h3,toks:=n}) Z3 rz
theorem cY(a:∀l H,bj c x l H=(ak c x l H).Aa di∨bj c x l H=.Ab)(e:Ev U w J Y hz L A N sc env c t x):Te U w J Y hz L A N sc env c (t>>= λv=>standAt pos>>= λ_=>holding [v]<|truthy v) x:=by
 intro s ρ H m l Z b;rcases a l H with q|q
 ·refine af q<|ai.Ah (e s ρ H m l Z b) λv H' _ ρ' h' tk u d M r=>ai.Af<|ai.Ad ?_;exact nc (s:={s with heap:=h',toks:=tk}) d r
 ·exact af q ai.Aa
theorem zM(e:Ev U w J Y hz L A N sc env c (eval o env) x)(P:Ev U w J Y hz L A N sc env c (valueOrNone<|evalOpt a env) y)(W:Ev U w J Y hz L A N sc env c (valueOrNone<|evalOpt b env) z):
 Ev U w J Y hz L A N sc env c (eval (.Subscript o (.Slice a b none p2) pos) env) (.N x y z):=by
 intro s ρ H m l Z lr;haveI q:eval (.Subscript o (.Slice a b none p2) pos) env=(eval o env>>= λu=>holding [u] (valueOrNone (evalOpt a env)>>= λl=>holding [l] (valueOrNone<|evalOpt b env)>>= λr=>holding [l,r] (pure .none)>>= λn=>newFields "slice" [l,r,n])>>= λi=>standAt pos>>= λ_=>subscriptTail o (.Slice a b none p2) u i):=rfl;refine af q<|e.Aa Z lr λρ' H' h' tk u c0 f j M r=>?_;haveI g:ai U w J Y hz L m A N ρ' {s with heap:=h',toks:=tk} (du J) (valueOrNone (evalOpt a env)>>= λl=>holding [l] (valueOrNone<|evalOpt b env)>>= λr=>newFields "slice" [l,r,.none]>>= λi=>standAt pos>>= λ_=>subscriptTail o (.Slice a b none p2) u i) (AM.Aa (ak c y l) (λx=>AM.Aa (ak c z l) λy=>kj c0 x y) H'):=by
  refine P.Aa (s:={s with heap:=h',toks:=tk}) f j λa2 H2 k t u2 b2 d v M2 r2=>(W.Ac [u2]).Aa (s:={s with heap:=k,toks:=t}) d v λB H3 C D u3 b3 Z3 a8 G r3=>?_;haveI g:=zD (U:=U) (w:=w) (Y:=Y) (hz:=hz) (L:=L) (m:=m) (A:=A) (N:=N) (ρ:=B) (H:=H3) (s:={s with heap:=C,toks:=D}) (value:=o) (sx:=.Slice a b none p2) (x1:=pos) Z3 ((r.Ab f.st f.ns M2).Ab d.st d.ns G) (r2.Ab d.st d.ns G) r3<|λo i=>rfl;exact g
 refine g.Ar λQ E this=>?_;intro Γ p F k C;haveI I:=this Γ p F k C;simp only [Sem.wp_bind',Sem.wp_holding,Sem.wp_pure'] at I ⊢;exact I
end
end
section
section
variable {U:Program} {w:World} {J:Nat->Value} {Y:Str->Option Addr} {hz:B0} {h h':Heap} {ρ ρ':List (Addr×Addr)} {H H':Hp} {L:Addr} {m mg mb:Str->Option Value} {A:Around} {N:Heap->Heap->Addr->Str->Str->Prop}
 {α β γ δ:Type} {s:Shared} {R:List (Addr×Addr)->Heap->α->β->Prop} {R':List (Addr×Addr)->Heap->γ->δ->Prop} {E:Value->Shared->Prop} {K:Frag} {sc:Scope} {env:Env} {c:CF}
theorem oD(h:cE n sc a b=some y):∀es k p,b≠.Set es k p:=by
 intro es k p e;subst e
 cases n with
 |zero=>exact ar h
 |succ n=>exact ar h
theorem qA(h:cE n sc a b=some y):∀x z k p,b≠.Slice x z k p:=by
 intro x z k p e;subst e
 cases n with
 |zero=>exact ar h
 |succ n=>exact ar h
theorem fR(h:∀l,bj c x l=AM.Ac):∀l H,bj c x l H=(ak c x l H).Aa di∨bj c x l H=.Ab:=λl H=>.inr (by exact af (h l) rfl)
structure wu(U:Program)(w:World)(J:Nat->Value)(Y:Str->Option Addr)(K:Frag)(mg mb:Str->Option Value)(hz:B0)(L:Addr)(A:Around)(N:Heap->Heap->Addr->Str->Str->Prop)(c:CF):Prop where
 D:Wd J Y K mg mb hz A
 C:tj U w J Y hz L A N c
 B:vH U w J Y hz L A N
 M:abb U w J Y hz L A N
theorem tA(h:cE n sc a b=some y):∀z p,b≠.Starred z p:=by
 intro z p e;subst e
 cases n with
 |zero=>exact ar h
 |succ n=>exact ar h
theorem zN(h:abc a=some x):∀l,bj c x l=AM.Ac:=λl=>by
 cases a<;>first|exact ar h|(injection h with h;subst h;rfl)
theorem alP(a:∀e x,F e=some x->Ev U w J Y hz L A N sc env c (eval e env) x/\Te U w J Y hz L A N sc env c (isTrue e env<|eval e env) x/\∀z p,e≠.Starred z p):∀{xs:List X},cL F es=some xs->wo U w J Y hz L A N sc env c es xs:=by
 induction es with
 |nil=>intro xs h;haveI h:=Qb h;subst h;exact .Ab
 |cons e r i=>exact λh=>rK h λx l b d=>.Aa (a e x b).1 (a e x b).2.1 (a e x b).2.2<|i d
theorem alQ(a:∀e x,F e=some x->Ev U w J Y hz L A N sc env c (eval e env) x)(h:cO F o=some x):Ev U w J Y hz L A N sc env c (valueOrNone<|evalOpt o env) x:=by
 cases o with
 |none=>haveI h:=Qb h;subst h;exact λs ρ H m l Z b=>ai.Ai Z .Ai
 |some e=>exact a e x h
theorem abg(O:wu U w J Y K mg mb hz L A N c)(V:gJ sc env L)(I:zg sc "__debug__"=false):∀n,
 (∀e x,cE n sc aA e=some x->Ev U w J Y hz L A N sc env c (eval e env) x/\Te U w J Y hz L A N sc env c (isTrue e env<|eval e env) x):=by
 intro n
 induction n with
 |zero=>exact λe x h=>ar h
 |succ n v=>
  haveI i2:=λo x h=>alQ (λe x h=>(v e x h).1) (o:=o) (x:=x) h;have D:=λes xs h=>alP (λe x h=>⟨(v e x h).1,(v e x h).2,tA h⟩) (es:=es) (xs:=xs) h;intro e x (h:cE1 sc aA (cE n sc aA) e=some x)
  cases e with
  |Constant co P k=>
   haveI r:=tm (U:=U) (w:=w) (J:=J) (Y:=Y) (hz:=hz) (L:=L) (A:=A) (N:=N) (sc:=sc) (env:=env) (c:=c) (k:=P) (pos:=k) h;exact⟨r,cY (pos:=k) (fR<|zN h) r⟩
  |Name nm k=>
   have r:=wn (N:=N) (c:=c) (U:=U) (w:=w) (pos:=k) O.D V h;refine⟨r,cY (pos:=k) ?_ r⟩;refine abd h (λ_ i _ l H=>.inl ?_) λ_ j _ _=>fR λ_=>rfl;show cs (l i) di H=(cs (l i) AM.Ab H).Aa di
   cases l i<;>rfl
  |Attribute o a k=>
   refine dP h λF h=>dP h λG h=>mw h λx' u=>?_;haveI r:=mX (pos:=k) O.D (Bool.not_eq_true' _ ▸F) G (v o x' u).1;exact⟨r,cY (pos:=k) (λl H=>.inl rfl) r⟩
  |Subscript o i k=>
   have h:alt (cE n sc aA) (cO<|cE n sc aA) o i=some x:=h;unfold alt at h
   cases q:vJ i with
   |some q'=>
    rw [q] at h;refine zO q λp2=>ahn h λx y z u B d=>?_;haveI r:=zM (pos:=k) (p2:=p2) (v o x u).1 (i2 q'.1 y B)<|i2 q'.2 z d;exact⟨r,cY (pos:=k) (fR λ_=>rfl) r⟩
   |none=>
    rw [q] at h;refine rK h λx y u B=>?_;haveI r:=afC (pos:=k) (qA B) (v o x u).1 (v i y B).1;exact⟨r,cY (pos:=k) (λl H=>.inl rfl) r⟩
  |BinOp a op b k=>
   refine rK h λx y u B=>?_;haveI r:=afE (pos:=k) (op:=op) (v a x u).1 (v b y B).1;exact⟨r,cY (pos:=k) (fR λ_=>rfl) r⟩
  |UnaryOp op a k=>
   cases op with
   |USub=>
    refine mw h λx u=>?_;haveI r:=afF (pos:=k) (v a x u).1;exact⟨r,cY (pos:=k) (fR λ_=>rfl) r⟩
   |Not=>exact mw h λx u=>⟨λs ρ H m l Z lr=>by exact ai.Aa,zK (pos:=k) (v a x u).2⟩
   |_=>exact ar h
  |BoolOp op es k=>exact mw h λxs u=>⟨wr<|D es xs u,wt rfl<|D es xs u⟩
  |Compare a a6 bs k=>
   exact rL h λop h=>rL h λb h=>rK h λx y u B=>⟨abf O.D (oD B) (v a x u).1 (v b y B).1,zL O.D (oD B) (v a x u).1 (v b y B).1⟩
  |IfExp t a b k=>exact ahn h λz x y d u B=>⟨zF (v t z d).2 (v a x u).1 (v b y B).1,λs ρ H m l Z lr=>by exact ai.Aa⟩
  |Tuple es P k=>
   refine dP h λM h=>mw h λxs u=>?_;haveI r:=zG (k:=P) (pos:=k) (Ql M)<|D es xs u;exact⟨r,cY (pos:=k) (fR λ_=>rfl) r⟩
  |List es k=>
   refine dP h λM h=>mw h λxs u=>?_;have r:=acC (pos:=k) (Ql M)<|D es xs u;exact⟨r,cY (pos:=k) (fR λ_=>rfl) r⟩
  |Dict ks vs k=>
   refine dP h λM h=>dP h λQ h=>rK h λl xs hl u=>?_;haveI r:=acF (pos:=k) (Ql M) (Ql Q) hl<|D vs xs u;exact⟨r,cY (pos:=k) (fR λ_=>rfl) r⟩
  |Call f args kw k=>
   cases f with
   |Attribute o name ap=>
    refine uH h λh=>dP h λF h=>dP h λG h=>dP h λW h=>rK h λx xs u C=>?_;haveI r:=acH (ap:=ap) (pos:=k) (name:=name) O.M (Bool.not_eq_true' _ ▸F) (Nat.lt_of_not_le<|of_decide_eq_false<|Bool.not_eq_true' _ ▸G) W (v o x u).1<|D args xs C;exact⟨r,cY (pos:=k) (fR λ_=>rfl) r⟩
   |Name f p=>
    refine uH h λh=>dP h λ_ h=>?_
    cases hg:cE n sc aA (.Name f p) with
    |some g=>
     rw [hg] at h;refine mw h λxs C=>?_;have r:=acG (pos:=k) O.D O.C (v _ g hg).1<|D args xs C;exact⟨r,cY (pos:=k) (λl H=>.inl rfl) r⟩
    |none=>
     rw [hg] at h;refine dP h λh1 h=>dP h λh2 h=>dP h λh3 h=>mw h λxs C=>?_;haveI hd:(f ==("__debug__":Str))=false:=by
      cases q:f ==("__debug__":Str) with
      |false=>rfl
      |true=>rw [eq_of_beq q,I] at h1;injection h1
     haveI r:=zJ (p:=p) (pos:=k) O.D V O.B h2 h1 hd<|D args xs C;exact⟨r,cY (pos:=k) (fR λ_=>rfl) r⟩
   |_=>exact ar h
  |_=>exact ar h
end
end
section
section
variable {U:Program} {w:World} {J:Nat->Value} {Y:Str->Option Addr} {hz:B0} {h h':Heap} {ρ ρ':List (Addr×Addr)} {H H':Hp} {L:Addr} {m mg mb:Str->Option Value} {A:Around} {N:Heap->Heap->Addr->Str->Str->Prop}
 {α β γ δ:Type} {s:Shared} {R:List (Addr×Addr)->Heap->α->β->Prop} {R':List (Addr×Addr)->Heap->γ->δ->Prop} {E:Value->Shared->Prop} {K:Frag} {sc:Scope} {env:Env} {c:CF}
theorem ai.Aq(Z:FS U w J Y hz L m ρ H s.heap)(h:∀Q E,(∀a h' tk,(∀b o,s.heap.get? b=some o->h'.get? b=some o)->R ρ h' a b->Q a {s with heap:=h',toks:=tk})->wpAny (model U w) A t Q E s):
 ai U w J Y hz L m A N ρ s R t (.ok b H):=λQ E e=>jt<| h Q E λa h' tk k r=>by
 exact aP (Z.Af k) λd M=>e ρ h' tk a d M r
theorem wv(r:bN J ρ h vs l)(e:oz l=some ns):IntsAre vs ns:=by
 refine bN.Ae (P:=λvs l=>∀ns,oz l=some ns->IntsAre vs ns) r (λns e=>by haveI b:=Qb e;subst b;exact .nil) (λ{v x vs l} a _ d ns e=>?_) ns e
 cases x with
 |A i=>
  haveI e:(oz l).map (i::·)=some ns:=e;exact VR.Aa a λ_=>bm e λns f=>.cons _ _<|d _ f
 |_=>exact ar e
theorem zP(r:bN J ρ h vs l)(e:rG l=some b):∃ns,IntsAre vs ns/\(∀n∈ns,0<=n/\n<256)/\byteArr ns=b.toArray:=by
 refine bN.Ae (P:=λvs l=>∀b:List UInt8,rG l=some b->∃ns,IntsAre vs ns/\(∀n∈ns,0<=n/\n<256)/\byteArr ns=b.toArray) r (λb e=>by haveI f:=Qb e;subst f;exact cz ([]) .nil (λ_ h=>absurd h Zx) rfl) (λ{v x vs l} a _ g b e=>?_) b e
 cases x with
 |A i=>
  haveI e:(if 0<=i/\i<256 then(rG l).map (UInt8.ofNat i.toNat::·) else none)=some b:=e;refine VR.Aa a λ_=>uC e λj e=>bm e λb k=>eI (g _ k) λns o p q=>cz (i::ns) (.cons _ _ o) (λn d=>?_) ?_
  ·rcases Qz.mp d with rfl|d
   ·exact j
   ·exact p n d
  ·exact Array.ext'<|Qt (UInt8.ofNat i.toNat::·)<|Qt Array.toList q
 |_=>exact ar e
theorem aeH(h:cx n):(n:Int)<2^63:=Int.lt_of_le_of_lt (Int.ofNat_le.mpr h) dd
theorem afG(Z:FS U w J Y hz L m ρ H s.heap)(g:bN J ρ s.heap d args):ai U w J Y hz L m A N ρ s (du J) (call (.builtin "len") d) (ana args H):=by
 refine ai.Am (t:=λd=>call (.builtin "len") d) g λu v r=>?_
 cases v with
 |G l=>exact VR.Ad r λ_=>ai.Ab λa=>ai.Ac Z λQ E e=>len_bytes (Qa (Qk Zc)<|Qa a lb) (by exact af (show l.toArray.size=l.length from Zc)<|e _ _<|.Ac _ _)
 |B i=>
  refine ai.Aj (t:=λu=>call (.builtin "len") [u]) Z r λo p k t R=>?_
  cases o with
  |A l=>
   refine aP R λ_ j=>cM j λvs n b r=>ai.Ab λa=>ai.Ac Z λQ E e=>?_;have f:vs.toArray.size=l.length:=Zc.trans r.Aa;exact len_list (items:=vs.toArray) (cz _ b rfl ⟨n,rfl⟩) (by exact af f<|aeH a) (by exact af f<|e _ _<|.Ac _ _)
  |D l=>exact aP R λ_ b=>ai.Ab λa=>ai.Ac Z λQ E e=>call_len_meets (n:=(l.length:Int)) (T:="bytearray") (bv _ b rfl) BA.AF BA.Az (BA.AZ _) (BA.AL p.1 l) (Int.not_lt.mpr<|Zh _) (Int.not_le.mpr<|aeH a) (λx q=>⟨b,q⟩)<|e _ _<|.Ac _ _
  |_=>exact ai.Aa
 |_=>exact ai.Aa
theorem afH(k:A.handled=none)(Z:FS U w J Y hz L m ρ H s.heap)(q:bN J ρ s.heap b args):ai U w J Y hz L m A N ρ s (du J) (call (.builtin "sum") b) (anb args H):=by
 refine ai.Am (t:=λb=>call (.builtin "sum") b) q λu v r=>?_
 cases v with
 |B i=>
  refine ai.Aj (t:=λu=>call (.builtin "sum") [u]) Z r λo p z B R=>?_
  cases o with
  |A l=>
   refine aP R λ_ t=>cM t λvs n d r=>ai.Ag λns f=>?_;have g:=wv r f;refine bC g.allInts.items λxs a=>ai.Aq Z λQ E e=>sum_intListG k (xs:=xs) (by refine cI a ?_;exact cz _ d rfl ⟨n,rfl⟩) λh' tk C x=>?_;haveI y:preSum (numAt xs) xs.size=ns.sum:=by
    haveI j:=nums_intItems xs;rw [←a] at j;exact af (preSum_eq ..)<|af (List.take_of_length_le (by simp) ..)<|cI (j ..)<|Qt List.sum g.numsOf
   exact af y<|e _ _ _ x<|.Ac _ _
  |_=>exact ai.Aa
 |_=>exact ai.Aa
theorem zQ(Z:FS U w J Y hz L m ρ H s.heap)(f:bN J ρ s.heap d args):ai U w J Y hz L m A N ρ s (du J) (call (.type "range") d) (aaX args H):=by
 refine ai.Am (t:=λd=>call (.type "range") d) f λu v r=>?_
 cases v with
 |A n=>exact VR.Aa r λ_=>ai.Ab λa=>ai.Aq Z λQ E e=>call_range_1<|e _ _ _ (λb o q=>Qu _ q)<|.Av<|IsRange.new ..
 |_=>exact ai.Aa
theorem afI(f:A.handled=none)(Z:FS U w J Y hz L m ρ H s.heap)(g:bN J ρ s.heap d args):ai U w J Y hz L m A N ρ s (du J) (call (.builtin "max") d) (anc args H):=by
 cases args with
 |nil=>exact ai.Aa
 |cons a args=>
  cases a with
  |A x=>
   refine bN.Ag g λu d a b=>VR.Aa a λt=>ai.Am (t:=λd=>call (.builtin "max")<|.int x t::d) b λv b r=>?_
   cases b with
   |A y=>
    refine VR.Aa r λu=>ai.Aq Z λQ E e=>max_two_ints f λh' tk i=>e _ _ _ i ?_
    by_cases q:x<y
    ·exact af (Qh q)<|af (Qh (show y>x from q))<|.Ac _ _
    ·exact af (Qe q)<|af (Qe (show ¬y>x from q))<|.Ac _ _
   |_=>exact ai.Aa
  |_=>exact ai.Aa
theorem ww(i:A.handled=none){p:Addr×Addr}(Z:FS U w J Y hz L m ρ H s.heap)(j:s.heap.get? p.1=some ⟨.type "list",none,.seq vs.toArray n, #[]⟩)(r:bN J ρ s.heap vs l):
 ai U w J Y hz L m A N ρ s (du J) (call (.type "bytes") [.ref p.1]) (cs (rG l) (λb=>be (cx b.length)<|AM.Ab<|.G b) H):=by
 refine ai.Ag λo d=>ai.Ab λa=>eI (zP r d) λns f q g=>?_;haveI u:ns.length=o.length:=(byteArr_size ns).symm.trans<|(Qt Array.size g).trans Zc;refine ai.Aq Z λQ E e=>call_bytes_ints (vs:=vs) (ns:=ns) (cz _ j rfl ⟨n,rfl⟩) f q (by(refine af f.length ?_;refine af u ?_);exact dm a) i λh' t k v=>?_;exact af g<|e _ _ _ v<|.Af _ _
end
end
section
section
variable {U:Program} {w:World} {J:Nat->Value} {Y:Str->Option Addr} {hz:B0} {h h':Heap} {ρ ρ':List (Addr×Addr)} {H H':Hp} {L:Addr} {m mg mb:Str->Option Value} {A:Around} {N:Heap->Heap->Addr->Str->Str->Prop}
 {α β γ δ:Type} {s:Shared} {R:List (Addr×Addr)->Heap->α->β->Prop} {R':List (Addr×Addr)->Heap->γ->δ->Prop} {E:Value->Shared->Prop} {K:Frag} {sc:Scope} {env:Env} {c:CF}
theorem ai.Al(g:ai U w J Y hz L m A N ρ s (λ_ _ (a:Value) (_:Unit)=>a=.none) t r):ai U w J Y hz L m A N ρ s (du J) t (r.Aa λ_=>AM.Ab V.C):=by
 intro Q E b;refine g Q E ?_
 cases r with
 |Ab=>exact b
 |Ac _ _ _=>exact b
 |ok x H1=>
  intro ρ' h' tk a d M e;subst e;exact b ρ' h' tk _ d M .Ai
theorem wy(d:(hz.get? sysModules).isSome=true):abb U w J Y hz L A N:=by
 intro name a args u z H ρ s m Z ru rs
 cases a with
 |B i=>
  refine ai.Aj (t:=λu=>call (.builtin<|gY name)<|u::z) Z ru λo p ho G R=>?_;haveI g:=bw G
  cases o with
  |A l=>
   refine ai.Am (t:=λz=>call (.builtin<|gY name)<|.ref p.1::z) rs λu0 v I=>ai.Ab λf=>aP f λz2 hsz=>?_;clear f;subst z2;refine aP R λP z3=>cM z3 λvs n W hr=>?_;haveI B:=hr.Aa;refine af (show gY "append"="list.append" from dd)<|ai.Al (r:=Mine.ml i (.A<|l++[v]) H)<|ai.Ao Z ho G λQ E e=>append_at W (λh' sb he=>e _ h' s.toks (Z.Ae g sb) (λb o hb _ _ hh=>(sb.2 b hb).trans hh) (λM=>⟨P,vs++[u0],n+1,?_,bN.Ah (bN.Ac Z.st Z.ns M hr)<|.Ab (I.Ab Z.st Z.ns M) .Ad⟩) rfl) (by simp [sizeLine];exact aU<|Qa (Qk B)<|Qm hsz);refine af he ?_;simp
  |B l ep=>
   refine ai.Am (t:=λz=>call (.builtin<|gY name)<|.ref p.1::z) rs λu v I=>?_
   cases v with
   |D k=>
    refine ai.Ab λf=>?_;subst f;refine VR.Ae I λt=>aP R λ_ z4=>dN z4 λkvs _ x _ C=>af (show gY "get"="dict.get" from dd)<|ai.Ac Z λQ E e=>call_meetsIn PySem.F.slot_dict_get x.dictOf.typeIs PySem.F.entry_dict_get (PySem.F.args_dict_get_2 _ _) (meets_dict_get (strKind U w) p.1 (strKind_is U w k t)<|Z.Ad d g)<|bv _ x.dictOf.mapOf<|e _ _ ?_
    cases hl:aB k l with
    |none=>exact af (C.Ad hl) .Ai
    |some y=>exact aT (C.Ab hl) λv hv rv=>af hv rv
   |B j=>
    refine ai.Ab λf=>?_;subst f;refine ai.Aj (t:=λu=>call (.builtin<|gY "update") [.ref p.1,u]) Z I λoj q c2 hq R'=>?_
    cases oj with
    |B r c3=>
     refine ai.Ab λf=>aP f λa2 hsz=>aP R λP z6=>dN z6 λkvs _ x _ C=>aP R' λ_ z7=>dN z7 λD _ a3 _ F=>?_;haveI a4:p.1≠q.1:=λe=>a2<|Z.st.inj _ _ q p hq G<|.inl e.symm;haveI l1:=C.Aa;haveI l2:=F.Aa;refine af (show gY "update"="dict.update" from dd) (ai.Al (r:=Mine.ml i (.B (aZ r l) none) H) (ai.Ao Z ho G λQ E e=>call_meetsIn PySem.F.slot_dict_update x.dictOf.typeIs PySem.F.entry_dict_update (PySem.F.args_dict_update_2 _ _) (meets_dict_update (strKind U w) p.1 q.1 a4<|Z.Ad d<|bw hq)
      (wc kvs D x.dictOf a3.dictOf (by unfold sizeLine;lia)<|λh' hd _ sb=>e _ h' s.toks (Z.Ae g sb) (λb o hb _ _ hh=>(sb.2 b hb).trans hh) (λM=>?_) rfl)))
     exact ze hd λo3 a5 a6 a7=>⟨P,_,a6,fK o3 a5 a7,(λk e=>nomatch e),gw.Ag (gw.Ai Z.st Z.ns M C) (gw.Ai Z.st Z.ns M F) x.nodup⟩
    |_=>exact ai.Aa
   |_=>exact ai.Aa
  |_=>exact ai.Aa
 |_=>exact ai.Aa
end
end
end Mine
end
section
open PySem PySem.W PyProof.Rows PySem.Calls
open Sem (wp)
namespace Mine
section
open Builtin Builtin.Bytes
namespace BA
theorem Bg:mroOf (.type "bytearray")=pure [.type "bytearray",.type "object"]:=by refine af (mroOf_type ..) ?_;kernel_rfl
theorem Av:typeLookup (.type "bytearray") "__new__"=pure (some<|.builtin "bytearray.__new__"):=by(refine af (Zj ..)<|af (QV ..) ?_);kernel_rfl
theorem Ah:Slot "bytearray" "__init__" "bytearray.__init__":=
 .of (owner:="bytearray") (n:="__init__") (by(refine af (Zj ..)<|af (QV ..) ?_);kernel_rfl) (by decide+kernel) (by decide+kernel) (by decide+kernel)
  (by first|exact .inl (by decide+kernel)|exact .inr<|by decide+kernel) (by refine af (isSubtype_type ..) ?_;kernel_rfl)
theorem Be:TypeCalled "bytearray" "bytearray.__new__" "bytearray.__init__":=
 ⟨by decide+kernel,by decide+kernel,fK _ _ Bg,madeBy_type Bg Av<|by decide+kernel,by decide+kernel,by refine af (isSubtype_type ..) ?_;kernel_rfl,Ah⟩
theorem Ba(a:Value):checkTypeCall "bytearray" ⟨[a],[]⟩=pure ():=by kernel_rfl
theorem Bf(a:Value):checkBuiltinCall "bytearray.__new__" ⟨[.type "bytearray",a],[]⟩=pure ():=by kernel_rfl
theorem AA:entryFor table "bytearray.__new__"=some Builtin.«list.__new__»:=
 entryFor_alias (id':="list.__new__") (by refine af (fastTable_eq_tree ..) ?_;kernel_rfl) (by decide+kernel) (by decide+kernel) (by refine af (fastTable_eq_tree ..) ?_;kernel_rfl)
theorem Al:plainId "bytearray.__new__"=true:=by decide+kernel
set_option maxRecDepth 1000000 in
set_option maxHeartbeats 4000000 in
theorem AB:("bytearray.__new__".splitOn ".__new__").headD ""="bytearray":=by simp+decide [String.splitOn,String.splitOnAux]
theorem Ad:isSubtype (.type "bytearray") (.type "bytearray")=pure true:=by refine af (isSubtype_type ..) ?_;kernel_rfl
theorem Aw:entryFor table "bytearray.__init__"=some Builtin.«bytearray.__init__»:=entryFor_of_tree (by kernel_rfl)
theorem AN(a b:Value):argsOk "bytearray.__init__" ⟨[a,b],[]⟩:=by
 unfold argsOk;refine af (signature?_of (id:="bytearray.__init__") (n:=['_', '_', 't', 'i', 'n', 'i', '_', '_']) (o:=['y', 'a', 'r', 'r', 'a', 'e', 't', 'y', 'b']) (by kernel_rfl) Ar) ?_;kernel_rfl
theorem AO(v:Value):Builtin.Bytes.bindOptional "bytearray.__init__" "bytearray" ["source","encoding","errors"] [v] []=pure [some v,none,none]:=by kernel_rfl
theorem AG:typeLookup (.type "bytearray") "__bytes__"=pure none:=by(refine af (Zj ..)<|af (QV ..) ?_);kernel_rfl
theorem AP:typeLookup (.type "bytearray") "__index__"=pure none:=by(refine af (Zj ..)<|af (QV ..) ?_);kernel_rfl
theorem As:typeLookup (.type "bytearray") "__buffer__"=pure (some<|.builtin "bytearray.__buffer__"):=by(refine af (Zj ..)<|af (QV ..) ?_);kernel_rfl
theorem AQ:typeLookup (.type "bytearray") "__release_buffer__"=pure (some<|.builtin "bytearray.__release_buffer__"):=by(refine af (Zj ..)<|af (QV ..) ?_);kernel_rfl
theorem Aj:typeLookup (.type "bytes") "__index__"=pure none:=by(refine af (Zj ..)<|af (QV ..) ?_);kernel_rfl
theorem Ab:typeLookup (.type "bytes") "__buffer__"=pure (some<|.builtin "bytes.__buffer__"):=by(refine af (Zj ..)<|af (QV ..) ?_);kernel_rfl
theorem Ae:typeLookup (.type "bytes") "__release_buffer__"=pure none:=by(refine af (Zj ..)<|af (QV ..) ?_);kernel_rfl
theorem AC:isSubtype (.type "bytes") (.type "bytes")=pure true:=by refine af (isSubtype_type ..) ?_;kernel_rfl
section
variable {U:Program} {w:World} {A:Around} {E:Value->Shared->Prop} {s:Shared}
theorem Bb(a:Value)(h:Q₁ (.ref s.heap.objs.size) {s with heap:=s.heap.push (Ai [])}):
 codeAny (model U w) A (.call (.builtin "bytearray.__new__") ⟨[.type "bytearray",a],[]⟩) (wants Q₁ E) s:=by
 refine codeAny_of_tree ?_;show wpAny _ A.in1 (do checkBuiltinCall "bytearray.__new__" ⟨[.type "bytearray",a],[]⟩;again (.builtin "bytearray.__new__" ⟨[.type "bytearray",a],[]⟩)) _ _ s;refine Qc<|QZ (Bf a)<|Qp ⟨plainId_quiet Al _,codeAny_builtin_stack AA rfl λp st=>?_⟩;refine af (Around.under_plainId Al _) ?_;haveI c:=Ad;haveI b:=AB;obtain⟨e,g,d,tk,f⟩:=s;simp only [b]
 wp_walk
 exact h
theorem AK{id:String}{args:Args}(h:(ng.contains id)=false):okC (.builtin id args)=true:=by show(!(ng.contains id))=true;exact af h rfl
theorem Af{id:String}{args:Args}(c:okC (.builtin id args)=true)(g:entryFor table id=some b)
 (h:dz (model U w) (A.under<|.builtin id args) (b args) (λd a=>match d with| .done f=>R (.ok f) a| .again c'=>c'.quiet=true/\gE (model U w) A c' R a) (λe a=>R (.error e) a) s):
 gE (model U w) A (.builtin id args) R s:=by
 refine bW c ?_;show dz _ _ (match entryFor table id with|some b=>b args|none=>unsupported<|(withoutEnding? id "#data").getD id) _ _ s;exact af g h
theorem AR{x:Value}{Q Q₁:Value->Shared->Prop}(c:codeAny (model U w) A.in1 (.call (.builtin "bytearray.__new__") ⟨[.type "bytearray",x],[]⟩) (wants Q₁ E) s)
 (b:∀o a,Q₁ o a->a.TypeIs o "bytearray"/\gE (model U w) A.in1 (.call (.builtin "bytearray.__init__") ⟨[o,x],[]⟩) (wants (λr d=>r=.none/\Q o d) E) a):
 dz (model U w) A (call (.type "bytearray") [x]) Q E s:=by
 refine kn<|bW rfl ?_;refine aO ⟨Code.quiet_builtin _<|by decide+kernel,Af (AK<|by decide+kernel) F.entry_type_call ?_⟩;refine af (Around.under_plain (weight_type_call_type "bytearray" [x] [])<|units_type_call_type "bytearray" [x] []) ?_;unfold Builtin.«type.__call__»;dsimp only;refine af (Qe (show ¬((Value.type "bytearray"==Value.type "type")=true) from dd))<|af (Qe<|by rw [Be.canCreate];decide)<|aL<|QZ (Ba x) ?_;refine aL<|QZ Bg ?_;refine af (Qe<|by simp)<|aL<|QZ Be.made ?_;refine aC<|aO ?_;refine aC<|bA<|kn<|acI<|codeAny_mono c λr a f=>?_
 cases r with
 |error e=>exact f
 |ok i=>
  cases i with
  |ret o=>
   refine aP (b o a f) λh j=>?_;refine aL<|wpAny_isInstance h Ad ?_;refine af (Qe<|by simp)<|aC<|bA ?_;simp only [callSpecial?];refine aL<|Zk h Ah.lookup ?_;simp only [Ah.bind];refine bA<|aC<|aO<|aC<|kn<|wz j λk n g=>?_
   cases k with
   |error e=>exact g
   |ok l=>
    cases l with
    |ret v=>
     obtain⟨rfl,m⟩:=g;refine aO ?_;dsimp only;exact af (Qe dd)<|aO m
    |_=>exact g.elim
  |_=>exact f.elim
theorem Ak{id:String}{args:Args}(g:okC (.builtin id args)=true)(j:plainId id=true)(k:entryFor table id=some b)
 (h:wpAny (model U w) A.in1 (checkBuiltinCall id args) (λ_ a=>dz (model U w) A.in1 (b args)
  (λi c=>match i with| .done f=>R (.ok f) c| .again c'=>c'.quiet=true/\gE (model U w) A c' R c) (λe c=>R (.error e) c) a) (λe c=>R (.error e) c) s):
 gE (model U w) A (.call (.builtin id) args) R s:=by
 refine bW rfl ?_;show dz _ A.in1 (do checkBuiltinCall id args;again (.builtin id args)) _ _ s;refine aL<|wpAny_mono h (λ_ a d=>aO ⟨plainId_quiet j _,Af g k ?_⟩) λ_ _ h'=>h';exact af (Around.under_plainId j _) d
theorem AS{st:List (Code×Pos)}(h:Cl st)(a:∀c p,okC c=true->f (c,p)=false):st.any f=false:=by
 rw [List.any_eq_false];intro x b;refine af (a x.1 x.2<|h x b) ?_
 decide
theorem Ay{Q:Bool->Shared->Prop}(h:Q false s):dz (model U w) A (exported a) Q E s:=by
 refine aC<|zR λst b=>?_;refine aO ?_;rw [AS b]
 ·exact h
 ·intro c p d
  cases c with
  |builtin id args=>
   have key:ng.contains id=false:=Bool.not_eq_true' _ ▸d;haveI n:∀x,ng.contains x=true->¬id=x:=λx f e=>by rw [e,f] at key;injection key
   delta PySem.Builtin.Bytes.exported.match_1;dsimp only;refine(dif_neg<|n "bytearray.__contains__" dd).trans<|(dif_neg<|n "bytearray.__mod__" dd).trans<|(dif_neg<|n "bytearray.__rmod__" dd).trans<|(dif_neg<|n "_struct.pack_into.held" dd).trans<|(dif_neg<|n "bytearray.find.held" dd).trans ?_;unfold ng at key;rw [List.contains_append,Bool.or_eq_false_iff] at key
   cases args with
   |mk ps g=>
    cases ps with
    |nil=>rfl
    |cons v r=>exact(Qt (Builtin.Bytes.sameRef v a&&·) key.1).trans<|Bool.and_false _
  |_=>rfl
theorem Au{o:Obj}(b:s.TypeIs (.ref a) "bytearray")(h:Q false s):wpAny (model U w) A (ownRelease<|.ref a) Q E s:=by
 refine Qc<|Qc<|Zk b AQ ?_;dsimp only;refine af (Qe<|by decide+kernel) ?_;haveI e:("bytearray.__release_buffer__".dropRight ("__release_buffer__".length+1):String)="bytearray":=by decide+kernel
 exact af e<|wpAny_isInstance b Ad<|Qp h
theorem AH{T id:String}(a:s.TypeIs v T)(b:typeLookup (.type T) (Str.ofString name)=pure (some<|.builtin id))(c:id.endsWith ("."++name)=true)(d:id.dropRight (name.length+1)=T)
 (hs:isSubtype (.type T) (.type T)=pure true)(h:Q true s):wpAny (model U w) A (slotIsOwn v name) Q E s:=by
 refine Qc<|Zk a b ?_;dsimp only;exact af c<|af d<|wpAny_isInstance a hs h
theorem AT{T:String}(a:s.TypeIs v T)(b:typeLookup (.type T) (Str.ofString name)=pure none)(h:Q true s):wpAny (model U w) A (slotIsOwn v name) Q E s:=by
 exact Qc<|Zk a b<|Qp h
theorem AU{b:List UInt8}{t:Tok}{id:String}(h:Q (some b.toArray) s):wpAny (model U w) A (buffer? id (.bytes b.toArray t) true) Q E s:=by
 refine Qc<|Zk (typeIs_bytes _ _ _) Ab ?_;refine Qc<|AH (T:="bytes") (typeIs_bytes _ _ _) Ab (by decide+kernel) (by decide+kernel) AC ?_;refine gK dd<|Qc<|Zk (typeIs_bytes _ _ _) Ab ?_;refine Qc (show wpAny _ _ (ownRelease<|.bytes b.toArray t) _ _ _ from ?_);refine Qc<|AT (T:="bytes") (typeIs_bytes _ _ _) Ae<|Qp ?_;refine gK dd ?_;refine Qc<|QZ (a:=b.toArray) rfl<|Qp h
theorem Bc{b:List UInt8}{id:String}(d:s.heap.get? a=some (Ai b))(h:Q (some b.toArray) s):wpAny (model U w) A (buffer? id (.ref a) true) Q E s:=by
 haveI c:s.TypeIs (.ref a) "bytearray":=bv _ d rfl;refine Qc<|Zk c As ?_;refine Qc<|AH (T:="bytearray") c As (by decide+kernel) (by decide+kernel) Ad ?_;refine gK dd<|Qc<|Zk c As ?_;refine Qc<|Au (o:=Ai b) c ?_;refine gK dd ?_;refine Qc<|Bh d<|Qp h
theorem Bi{l:List UInt8}{t:Tok}{Q:Shared->Prop}(g:s.heap.get? a=some (Ai []))(hz:l.length<=sizeLine)
 (h:∀h',Heap.SameBut a s.heap h'->h'.get? a=some (Ai l)->Q {s with heap:=h'}):
 gE (model U w) A (.call (.builtin "bytearray.__init__") ⟨[.ref a,.bytes l.toArray t],[]⟩) (wants (λr b=>r=.none/\Q b) E) s:=by
 haveI n:s.TypeIs (.ref a) "bytearray":=bv _ g rfl;refine Ak (AK<|by decide+kernel) (by decide+kernel) Aw<|Ah.check _ _ _ _ _ _ _ _ n (AN _ _) ?_;refine aL<|Au (o:=Ai []) n ?_;refine lT dd<|aL<|QZ (AO _) ?_;refine aL<|QZ (a:=()) rfl ?_;refine aL<|QZ (a:=()) rfl ?_;refine aC<|aC<|Ay ?_;refine aC (show dz _ _ (exportsOf<|.ref a) _ _ _ from ?_);refine aL<|wpAny_load g ?_;refine aO<|aO ?_;refine lT dd ?_;have c:∀(s:Shared) (l l':List UInt8) (f:Array UInt8->Array UInt8) (Q:Unit->Shared->Prop) (E:Value->Shared->Prop),s.heap.get? a=some (Ai l)->f l.toArray=l'.toArray->l'.length<=sizeLine->
  (∀h',Heap.SameBut a s.heap h'->h'.get? a=some (Ai l')->Q () {s with heap:=h'})->wpAny (model U w) A.in1 (write (.ref a) f) Q E s:=by
  intro s l l' f Q E hs o q p;show wpAny _ _ (updateBytearray a f) _ _ _;refine Qc<|wpAny_load hs ?_;refine Qc<|wpAny_update hs ?_;have e:Obj.mapBytearray f (Ai l)=Ai l':=by show({cls:=.type "bytearray",data:=.bytearray (f l.toArray) 0}:Obj)=_;exact af o rfl
  have d:(s.heap.update a<|Obj.mapBytearray f).get? a=some (Ai l'):=by
   refine af (Zb _ hs<|by rw [e];rfl) ?_;exact af e rfl
  refine wpAny_lookBehind d ?_<|p _ (Heap.SameBut.update ..) d;show(if l'.toArray.size>sizeLine then some "bytearray:memory" else none)=none;rw [Qe];simp;omega
 refine aL<|c s [] [] _ _ _ g rfl (QO _) λu i j=>?_;refine aL<|QZ (a:=none) rfl ?_;refine lT dd<|aL<|QZ (a:=()) rfl ?_;refine aL<|Zk (typeIs_bytes _ _ _) Aj ?_;refine lT dd<|aL<|AU ?_;refine aC<|wA ?_;refine aL<|c _ [] l _ _ _ j rfl hz λd k m=>?_;exact aC<|aO<|aO ⟨rfl,h d (i.trans k) m⟩
theorem AV(hz:l.length<=sizeLine)
 (h:∀h',(∀b o,s.heap.get? b=some o->h'.get? b=some o)->h'.get? s.heap.objs.size=some (Ai l)->Q (.ref s.heap.objs.size) {s with heap:=h'}):
 dz (model U w) A (call (.type "bytearray") [.bytes l.toArray t]) Q E s:=by
 refine AR (Q₁:=λo a=>o=.ref s.heap.objs.size/\a={s with heap:=s.heap.push (Ai [])}) (Bb _ ⟨rfl,rfl⟩) λo a d=>?_;obtain⟨rfl,rfl⟩:=d;have c:(s.heap.push<|Ai []).get? s.heap.objs.size=some (Ai []):=QI _ rfl;refine⟨⟨_,c,rfl⟩,Bi c hz λh' sb f=>h h' (λb o e=>?_) f⟩;exact(sb.2 b<|QC<|QP e).trans<|Qu _ e
theorem AI(d:s.heap.get? a=some (Ai l))(hz:l.length<=sizeLine)
 (f:∀t k,Q (.bytes l.toArray t) {s with toks:=k}):wpAny (model U w) A (call (.type "bytes") [.ref a]) Q E s:=by
 haveI e:s.TypeIs (.ref a) "bytearray":=bv _ d rfl;refine callType_codes (Q₁:=λo b=>b.TypeIs o "bytes"/\Q o b) F.bm_called (F.bm_typeCall _) F.entry_object_init ?_ λo b c=>?_
 ·refine codeAny_of_tree ?_;show wpAny _ A.in1.in1 (do checkBuiltinCall "bytes.__new__" ⟨[.type "bytes",.ref a],[]⟩;again (.builtin "bytes.__new__" ⟨[.type "bytes",.ref a],[]⟩)) _ _ s;refine Qc<|QZ (F.bm_newCall _)<|Qp ⟨plainId_quiet F.bm_plain _,codeAny_builtin F.bm_entry ?_⟩;refine af (Around.under_plainId F.bm_plain _)<|Qc<|QZ (a:=true) rfl ?_;refine bm_if_false rfl<|Qc<|QZ F.bm_sub ?_;refine bm_if_false rfl<|Qc<|QZ (F.bm_bind _) ?_;refine Qc<|QZ (a:=()) rfl ?_;refine Qc<|QZ (a:=()) rfl ?_;refine bm_if_false rfl<|Qc<|Zk e AG ?_;refine Qc<|Qc ?_;refine Qc<|wpAny_load d ?_;refine Qp<|Qp ?_;refine bm_if_false rfl<|Qc<|Zk e AP ?_;refine bm_if_true rfl<|Qc<|Bc d<|Qc<|wpAny_rule ?_;refine Qc<|wpAny_mkBytes ?_ (by simpa using hz);exact bm_if_true dd<|Qp ⟨typeIs_bytes _ _ _,f _ _⟩
 ·exact⟨c.1,F.args_object_init_2 o _,object_init_meets F.bm_called.init.lookup F.bm_called.made dd U w A.in1 _ b ⟨c.1,rfl,c.2⟩⟩
end
end BA
end
end Mine
end
section
open PySem PySem.W PyProof.Rows PySem.Calls
namespace Mine
section
section
variable {U:Program} {w:World} {J:Nat->Value} {Y:Str->Option Addr} {hz:B0} {h h':Heap} {ρ ρ':List (Addr×Addr)} {H H':Hp} {L:Addr} {m mg mb:Str->Option Value} {A:Around} {N:Heap->Heap->Addr->Str->Str->Prop}
 {α β γ δ:Type} {s:Shared} {R:List (Addr×Addr)->Heap->α->β->Prop} {R':List (Addr×Addr)->Heap->γ->δ->Prop} {E:Value->Shared->Prop} {K:Frag} {sc:Scope} {env:Env} {c:CF}
theorem zT(f:A.handled=none)(Z:FS U w J Y hz L m ρ H s.heap)(g:bN J ρ s.heap d args):ai U w J Y hz L m A N ρ s (du J) (call (.type "bytes") d) (aeE args H):=by
 refine ai.Am (t:=λd=>call (.type "bytes") d) g λu v r=>?_
 cases v with
 |B i=>
  refine ai.Aj (t:=λu=>call (.type "bytes") [u]) Z r λo p q x R=>?_
  cases o with
  |A l=>exact aP R λ_ j=>cM j λvs n b r=>ww f Z b r
  |D l=>exact aP R λ_ b=>ai.Ab λa=>ai.Ac Z λQ E e=>BA.AI b (dm a) λt k=>e _ _<|.Af _ _
  |_=>exact ai.Aa
 |_=>exact ai.Aa
theorem acL(Z:FS U w J Y hz L m ρ H s.heap)(f:bN J ρ s.heap b args):ai U w J Y hz L m A N ρ s (du J) (call (.type "bytearray") b) (ahY args H):=by
 refine ai.Am (t:=λb=>call (.type "bytearray") b) f λu v r=>?_
 cases v with
 |G l=>
  refine VR.Ad r λt=>ai.Ab λa=>?_;haveI d:=ahm.Ab s.heap;intro Q E e;exact BA.AV (dm a) λh' k g=>aP (Z.Am (p:=(s.heap.objs.size,s.heap.objs.size)) (h':=h') (o':=.D l) k d d<|λM=>⟨rfl,g⟩) λi M=>e _ _ s.toks _ i M<|VR.An (p:=(s.heap.objs.size,s.heap.objs.size))<|Z.Ab _
 |_=>exact ai.Aa
def abi(U:Program)(w:World)(J:Nat->Value)(Y:Str->Option Addr)(hz:B0)(L:Addr)(A:Around)(N:Heap->Heap->Addr->Str->Str->Prop):Prop:=
 ∀a args H ρ (s:Shared) m,FS U w J Y hz L m ρ H s.heap->bN J ρ s.heap a args->ai U w J Y hz L m A N ρ s (du J) (call (.builtin "sorted") a) (aaY args H)
theorem wF:bootBuiltins "len"=some (.builtin "len"):=by decide+kernel
theorem oF:bootBuiltins "sorted"=some (.builtin "sorted"):=by decide+kernel
theorem qB:bootBuiltins "range"=some (.type "range"):=by decide+kernel
theorem qC:bootBuiltins "bytes"=some (.type "bytes"):=by decide+kernel
theorem kq:bootBuiltins "bytearray"=some (.type "bytearray"):=by decide+kernel
theorem tB(b:A.handled=none)(d:abi U w J Y hz L A N):vH U w J Y hz L A N:=by
 intro f a;exact oE a (cz _ wF (.inl ⟨_,rfl⟩)<|λargs vs H ρ s m Z r=>afG Z r) λa=>
  oE a (cz _ boot_sum (.inl ⟨_,rfl⟩)<|λargs vs H ρ s m Z r=>afH b Z r) λa=>
  oE a (cz _ qB (.inr ⟨_,rfl⟩)<|λargs vs H ρ s m Z r=>zQ Z r) λa=>
  oE a (cz _ oF (.inl ⟨_,rfl⟩)<|λargs vs H ρ s m Z r=>d vs args H ρ s m Z r) λa=>
  oE a (cz _ qC (.inr ⟨_,rfl⟩)<|λargs vs H ρ s m Z r=>zT b Z r) λa=>
  oE a (cz _ kq (.inr ⟨_,rfl⟩)<|λargs vs H ρ s m Z r=>acL Z r) λa=>
  oE a (cz _ boot_max (.inl ⟨_,rfl⟩)<|λargs vs H ρ s m Z r=>afI b Z r) λa=>Bool.noConfusion a
end
end
section
section
variable (U:Program) (w:World) (J:Nat->Value) (Y:Str->Option Addr) (hz:B0) (L:Addr) (A:Around) (N:Heap->Heap->Addr->Str->Str->Prop)
def eG(ρ:List (Addr×Addr))(s:Shared)(R:(Str->Option Value)->List (Addr×Addr)->Heap->α->β->Prop)(r:bJ β)(Q:α->Shared->Prop)(E:Value->Shared->Prop):Prop:=
 match r with
 | .ok b H'=>∀m' ρ' h' tk a,FS U w J Y hz L m' ρ' H' h'->Mv L ρ s.heap ρ' h'->R m' ρ' h' a b->Q a {s with heap:=h',toks:=tk}
 | .Ac k x H'=>∀m' ρ' d h' tk e,FS U w J Y hz L m' ρ' H' d->Mv L ρ s.heap ρ' d->(∀p∈ρ',e≠p.1/\e≠p.2)->s.heap.get? e=none->N d h' e k x->E (.ref e) {s with heap:=h',toks:=tk}
 | .Ab=>False
def aF(ρ:List (Addr×Addr))(s:Shared)(R:(Str->Option Value)->List (Addr×Addr)->Heap->α->β->Prop)(t:Sem α)(r:bJ β):Prop:=
 ∀Q E,eG U w J Y hz L N ρ s R r Q E->dz (model U w) A t Q E s
end
section
variable {U:Program} {w:World} {J:Nat->Value} {Y:Str->Option Addr} {hz:B0} {h h':Heap} {ρ ρ':List (Addr×Addr)} {H H':Hp} {L:Addr} {m m' mg mb:Str->Option Value} {A:Around} {N:Heap->Heap->Addr->Str->Str->Prop}
 {α β γ δ:Type} {s:Shared} {R:(Str->Option Value)->List (Addr×Addr)->Heap->α->β->Prop} {R':(Str->Option Value)->List (Addr×Addr)->Heap->γ->δ->Prop} {E:Value->Shared->Prop} {K:Frag} {sc:Scope} {env:Env} {c:CF}
theorem eG.Aa(Z:FS U w J Y hz L m ρ' H' h')(M:Mv L ρ s.heap ρ' h')(e:eG U w J Y hz L N ρ s R r Q E):
 eG U w J Y hz L N ρ' {s with heap:=h',toks:=tk} R r Q E:=by
 cases r with
 |ok b H1=>exact λg d i f a j l p=>e g d i f a j (Mv.Aa Z M l) p
 |Ac k x H1=>
  intro g d t i f n j l u v y;refine e g d t i f n j (Mv.Aa Z M l) u ?_ y
  cases q:s.heap.get? n with
  |none=>rfl
  |some o=>
   haveI:=M.Ad Z q;rw [show h'.get? n=none from v] at this;injection this
 |Ab=>exact e
theorem aF.Ab:aF U w J Y hz L A N ρ s R t .Ab:=λ_ _ e=>e.elim
theorem aF.Ah{_:Decidable p}(h:p->aF U w J Y hz L A N ρ s R t (f H)):aF U w J Y hz L A N ρ s R t (be p f H):=by
 unfold be
 by_cases q:p
 ·exact af (Qh q)<|h q
 ·exact af (Qe q) aF.Ab
theorem aF.Ae(d:aF U w J Y hz L A N ρ s R t r)
 (o:∀b H',r=.ok b H'->∀m' ρ' h' tk a,FS U w J Y hz L m' ρ' H' h'->Mv L ρ s.heap ρ' h'->R m' ρ' h' a b->aF U w J Y hz L A N ρ' {s with heap:=h',toks:=tk} R' (f a) (g b H')):
 aF U w J Y hz L A N ρ s R' (t>>= f) (r.Aa g):=λQ E e=>by
 refine aC<|d _ _ ?_
 cases r with
 |ok b H1=>exact λp i d j a l n q=>o b H1 rfl p i d j a l n q Q E<|eG.Aa l n e
 |Ac k x H1=>exact e
 |Ab=>exact e
theorem aF.Ai(g:aF U w J Y hz L A N ρ s R t r)(d:eG U w J Y hz L N ρ s R' (r.Aa e) Q E)
 (k:∀b H1 m' ρ' h' tk a,FS U w J Y hz L m' ρ' H1 h'->Mv L ρ s.heap ρ' h'->R m' ρ' h' a b->eG U w J Y hz L N ρ' {s with heap:=h',toks:=tk} R' (e b H1) Q E->dz (model U w) A (f a) i E {s with heap:=h',toks:=tk}):
 dz (model U w) A (t>>= f) i E s:=by
 refine aC<|g _ _ ?_
 cases r with
 |ok b H1=>exact λm' ρ' h' tk a Z M j=>k b H1 m' ρ' h' tk a Z M j<|eG.Aa Z M d
 |Ac k x H1=>exact d
 |Ab=>exact d
theorem ai.toM(g:ai U w J Y hz L m A N ρ s n t r):aF U w J Y hz L A N ρ s (λm' ρ h a b=>m'=m/\n ρ h a b) t r:=λQ E e=>g Q E (by
 cases r with
 |ok b H1=>exact λd i f a j l o=>e m d i f a j l ⟨rfl,o⟩
 |Ac k x H1=>exact λd p i f q j l u v y=>e m d p i f q j l u v y
 |Ab=>exact e)
theorem aF.Aj(h:∀Q E,dz (model U w) A t Q E s->dz (model U w) A a Q E s)(g:aF U w J Y hz L A N ρ s R t r):aF U w J Y hz L A N ρ s R a r:=
 λQ E e=>h Q E<|g Q E e
theorem aF.Aa(g:aF U w J Y hz L A N ρ s R t r):aF U w J Y hz L A N ρ s R (standAt p>>= λ_=>t) r:=g.Aj λ_ _ h=>aC<|cg h
theorem aF.Af(g:aF U w J Y hz L A N ρ s R t r):aF U w J Y hz L A N ρ s R (holding vs t) r:=g.Aj λ_ _=>bA
theorem aF.Ad(Z:FS U w J Y hz L m ρ H s.heap)(r:R m ρ s.heap a b):aF U w J Y hz L A N ρ s R (pure a) (.ok b H):=
 λ_ _ e=>aO<|e m ρ s.heap s.toks a Z .Ae r
theorem Ev.Ab(e:Ev U w J Y hz L A N sc env c t x)(Z:FS U w J Y hz L m ρ H s.heap)(d:LR J sc m l ρ s.heap)
 (k:∀ρ' H' h' tk a b,FS U w J Y hz L m ρ' H' h'->LR J sc m l ρ' h'->Mv L ρ s.heap ρ' h'->VR J ρ' h' a b->aF U w J Y hz L A N ρ' {s with heap:=h',toks:=tk} R (f a) (g b H')):
 aF U w J Y hz L A N ρ s R (t>>= f) (AM.Aa (ak c x l) g H):=by
 refine af mW<|aF.Ae (e s ρ H m l Z d).toM λb H' _ m' ρ' h' tk a i M r=>?_;obtain⟨rfl,r⟩:=r;exact k ρ' H' h' tk a b i (d.Aa Z.st Z.ns M) M r
def NR(J:Nat->Value)(sc:Scope):(Str->Option Value)->List (Addr×Addr)->Heap->Unit->Lc->Prop:=λm ρ h _ l=>LR J sc m l ρ h
def At(U:Program)(w:World)(J:Nat->Value)(Y:Str->Option Addr)(hz:B0)(L:Addr)(A:Around)(N:Heap->Heap->Addr->Str->Str->Prop)(sc:Scope)(env:Env)(c:CF)(t:Value->Sem Unit)(x:T):Prop:=
 ∀s ρ H m l u v,FS U w J Y hz L m ρ H s.heap->LR J sc m l ρ s.heap->VR J ρ s.heap u v->aF U w J Y hz L A N ρ s (NR J sc) (t u) (jc c x v l H)
theorem iy(a:gJ sc env L)(d:jr sc x=some i)(Z:FS U w J Y hz L m ρ H s.heap)(g:LR J sc m l ρ s.heap)(r:VR J ρ s.heap u v):
 aF U w J Y hz L A N ρ s (NR J sc) (bindName env x u) (.ok (l.Aa i v) H):=λQ E e=>jt<| by
 haveI j:env.kindOf x=some .local:=by show env.scope.names.lookup x=_;exact af a.Aa<|jX d
 haveI k:env.scope.kind=.function:=by exact af a.Aa a.Ab
 refine wpAny_bindName<|wpAny_storeName_local (m:=m) j (by refine af a.Ac ?_;exact Z.ns) (λh' f hs=>?_) (by refine af k ?_;rfl);rw [a.Ac] at f hs;exact aP (Z.Ai f hs) λn M=>e _ ρ h' _ () n M<|g.Aa Z.st Z.ns M|> λb=>LR.Ac (J:=J) (m:=m) b d<|r.Ab Z.st Z.ns M
theorem abj(a:gJ sc env L)(b:jr sc x=some i):At U w J Y hz L A N sc env c (assign (.Name x pos) env) (.A i):=by
 intro s ρ H m l u v Z d r;exact aF.Aa (t:=bindName env x u)<|iy a b Z d r
theorem aF.Ag{R:(Str->Option Value)->List (Addr×Addr)->Heap->Unit->β->Prop}(g:aF U w J Y hz L A N ρ s R t r):aF U w J Y hz L A N ρ s R (t>>= λ_=>release vs a) r:=λQ E e=>by
 refine aC<|dg (g Q E e) (λ_ b q=>jt<|wpAny_release' q) λ_ _ x=>x
theorem ai.As(Z:FS U w J Y hz L m ρ H s.heap)(o:LR J sc m l ρ s.heap)(g:ai U w J Y hz L m A N ρ s z t r):
 aF U w J Y hz L A N ρ s (NR J sc) t (r.Aa λ_=>AM.Ab l):=λQ E e=>g Q E (by
 cases r with
 |ok b H1=>exact λd j f a n i _=>e m d j f a n i<|o.Aa Z.st Z.ns i
 |Ac k x H1=>exact λd p j f q n i u v y=>e m d p j f q n i u v y
 |Ab=>exact e)
theorem afL(D:Wd J Y K mg mb hz A)(i:gX a bE=true)(e:Ev U w J Y hz L A N sc env c (eval o env) x):At U w J Y hz L A N sc env c (assign (.Attribute o a pos) env) (.C x a):=by
 intro s ρ H m l u v Z j r;refine af (show assign (.Attribute o a pos) env u=(PySem.holding [u] (eval o env)>>= λd=>standAt pos.atName>>= λ_=>PySem.holding [u,d] (setAttr d a u)>>= λ_=>release [u,d] []) from rfl)<|(e.Ac [u]).Ab (g:=λo=>AM.Aa (ki o a v) λ_=>AM.Ab l) Z j λρ' H' h' tk d b g f M k=>aF.Aa<|aF.Ag ?_;exact ai.As (s:={s with heap:=h',toks:=tk}) g f<|(uI (N:=N) (s:={s with heap:=h',toks:=tk}) D.toaba g k (r.Ab Z.st Z.ns M) i).Ad (vs:=[u,d])
theorem afM(D:Wd J Y K mg mb hz A)(hi:∀a b c d,i≠.Slice a b c d)(e:Ev U w J Y hz L A N sc env c (eval o env) x)(G:Ev U w J Y hz L A N sc env c (eval i env) y):At U w J Y hz L A N sc env c (assign (.Subscript o i pos) env) (.B x y):=by
 intro s ρ H m l u v Z I r;haveI q:∃z:Value->Value->List Value,assign (.Subscript o i pos) env u=(PySem.holding [u] (eval o env)>>= λf=>PySem.holding [u,f] (eval i env)>>= λg=>standAt pos>>= λ_=>PySem.holding [u,f,g] (setItem f g u)>>= λ_=>release (z f g) []):=⟨_,rfl⟩;refine bC q λz q=>af q<|(e.Ac [u]).Ab (g:=λo=>AM.Aa (ak c y l) λk=>AM.Aa (fQ o k v) λ_=>AM.Ab l) Z I λρ' H' h' tk f b j p M P=>(G.Ac [u,f]).Ab (s:={s with heap:=h',toks:=tk}) j p λQ H2 B n g b2 C t F W=>aF.Aa<|aF.Ag ?_;exact ai.As (s:={s with heap:=B,toks:=n}) C t<|(uJ (N:=N) (A:=A) (s:={s with heap:=B,toks:=n}) C (P.Ab j.st j.ns F) W<|(r.Ab Z.st Z.ns M).Ab j.st j.ns F).Ad (vs:=[u,f,g])
inductive AtL(U:Program)(w:World)(J:Nat->Value)(Y:Str->Option Addr)(hz:B0)(L:Addr)(A:Around)(N:Heap->Heap->Addr->Str->Str->Prop)(sc:Scope)(env:Env)(c:CF):List Expr->List T->Prop
 |Ac:AtL U w J Y hz L A N sc env c [] []
 |Aa {e:Expr}{x:T}{es:List Expr}{xs:List T}:At U w J Y hz L A N sc env c (assign e env) x->(∀z p,e≠.Starred z p)->AtL U w J Y hz L A N sc env c es xs->AtL U w J Y hz L A N sc env c (e::es) (x::xs)
theorem dL(h:∀z p,e≠.Starred z p):assignEach (e::es) env=(false,assign e env)::assignEach es env:=by
 cases e<;>first|rfl|exact absurd rfl<|h _ _
theorem AtL.Ab(b:AtL U w J Y hz L A N sc env c es xs):(assignEach es env).length=xs.length/\(assignEach es env).findIdx? (·.1)=none:=by
 induction b with
 |Ac=>exact⟨rfl,rfl⟩
 |Aa _ hs _ a=>
  exact af (dL hs)<|⟨Qt (·+1) a.1,by(refine af (List.findIdx?_cons) ?_;refine af a.2 ?_);rfl⟩
set_option tactic.hygienic true in
theorem uK:∀{es:List Expr} {xs:List T},AtL U w J Y hz L A N sc env c es xs->∀s ρ H m l a vs,FS U w J Y hz L m ρ H s.heap->LR J sc m l ρ s.heap->bN J ρ s.heap a vs->
 aF U w J Y hz L A N ρ s (NR J sc) (assignInOrder ((assignEach es env).map (·.2)) a) (oA c xs vs l H):=by
 intro es xs f
 induction f with
 |Ac=>
  intro s ρ H m l a vs Z b r;exact aF.Ad Z b
 |Aa g hs o i=>
  intro s ρ H m l a vs Z b r;refine af (dL hs) ?_
  cases r with
  |Ad=>exact aF.Ad Z b
  |Ab j k=>
   rename_i e x es xs u y a ys
   exact aF.Ae (aF.Af<|g s ρ H m l u y Z b j) λl' H' _ m' ρ' h' tk _ n M d=>i {s with heap:=h',toks:=tk} ρ' H' m' l' a ys n d (bN.Ac Z.st Z.ns M k)
theorem tD(Z:FS U w J Y hz L m ρ H h)(x:Heap.ExtBut h.objs.size h a):FS U w J Y hz L m ρ H a/\Mv L ρ h ρ a:=
 Z.Af λb o e=>x b o (QC<|QP e) e
theorem acM(o:A.handled=none)(f:AtL U w J Y hz L A N sc env c es xs):At U w J Y hz L A N sc env c (assign (.Tuple es k pos) env) (.D xs):=by
 intro s ρ H m l u v Z p r;refine af (arm_assign_Tuple ..) ?_
 cases v with
 |F vs=>
  refine VR.Ag r λa g q i=>aF.Ah λb=>aF.Aa ?_;intro Q E e;unfold unpack;haveI j:=f.Ab;refine af (show(assignEach es env).length=g.toArray.size from j.1.trans<|b.trans<|i.Aa.symm.trans Zc.symm)<|af j.2<|aL<|Zg<|wpAny_unpackItems_tuple o q λt x=>aP (tD Z x) λn d=>?_;exact uK f {s with heap:=t} ρ H m l g vs n (p.Aa Z.st Z.ns d) (bN.Ac Z.st Z.ns d i) Q E (eG.Aa (tk:=s.toks) n d e)
 |_=>exact aF.Ab
end
end
section
section
variable {U:Program} {w:World} {J:Nat->Value} {Y:Str->Option Addr} {hz:B0} {h h':Heap} {ρ ρ':List (Addr×Addr)} {H H':Hp} {L:Addr} {m m' mg mb:Str->Option Value} {A:Around} {N:Heap->Heap->Addr->Str->Str->Prop}
 {α β γ δ:Type} {s:Shared} {R:(Str->Option Value)->List (Addr×Addr)->Heap->α->β->Prop} {R':(Str->Option Value)->List (Addr×Addr)->Heap->γ->δ->Prop} {E:Value->Shared->Prop} {K:Frag} {sc:Scope} {env:Env} {c:CF}
inductive FlR(J:Nat->Value)(ρ:List (Addr×Addr))(h:Heap):Flow->Fl->Prop
 |Aa:FlR J ρ h .next .Aa
 |Ac:FlR J ρ h .brk .Ac
 |Ab {v:Value}{x:Mine.V}:VR J ρ h v x->FlR J ρ h (.ret v) (.Ab x)
def SR(J:Nat->Value)(sc:Scope):(Str->Option Value)->List (Addr×Addr)->Heap->Flow->Fl×Lc->Prop:=λm ρ h f q=>FlR J ρ h f q.1/\LR J sc m q.2 ρ h
def St(U:Program)(w:World)(J:Nat->Value)(Y:Str->Option Addr)(hz:B0)(L:Addr)(A:Around)(N:Heap->Heap->Addr->Str->Str->Prop)(sc:Scope)(env:Env)(c:CF)(t:Sem Flow)(x:S):Prop:=
 ∀s ρ H m l,FS U w J Y hz L m ρ H s.heap->LR J sc m l ρ s.heap->aF U w J Y hz L A N ρ s (SR J sc) t (aN c x l H)
def Sts(U:Program)(w:World)(J:Nat->Value)(Y:Str->Option Addr)(hz:B0)(L:Addr)(A:Around)(N:Heap->Heap->Addr->Str->Str->Prop)(sc:Scope)(env:Env)(c:CF)(t:Sem Flow)(x:List S):Prop:=
 ∀s ρ H m l,FS U w J Y hz L m ρ H s.heap->LR J sc m l ρ s.heap->aF U w J Y hz L A N ρ s (SR J sc) t (au c x l H)
theorem abk(h:cE n sc a e=some x):swapsWith e tg b env=pure false:=by
 cases n with
 |zero=>exact ar h
 |succ n=>cases e<;>first|rfl|exact ar h
theorem tE(h:cT n sc a b=some y):∀z p,b≠.Starred z p:=by
 intro z p e;subst e
 cases n with
 |zero=>exact ar h
 |succ n=>exact ar h
theorem lh(a:env.scope=sc):swappedStores b e env=swappedStores b e (aeI sc):=by
 cases env
 subst a;rfl
inductive zh(sc:Scope):List Str->List Nat->Prop
 |Ac:zh sc [] []
 |Aa {x:Str}{i:Nat}{xs:List Str}{is:List Nat}:jr sc x=some i->zh sc xs is->zh sc (x::xs) (i::is)
theorem zh.of:∀{a:List Nat},xs.mapM (jr sc)=some a->zh sc xs a:=by
 induction xs with
 |nil=>intro a h;injection h with z1;subst z1;exact .Ac
 |cons x xs b=>
  intro a h;rw [List.mapM_cons] at h;refine bo h λi d h=>bo h λl f e=>?_;haveI g:=Qb e;subst g;exact .Aa d<|b f
theorem zh.Ad(a:zh sc xs d)(b:zh sc ys e):zh sc (xs++ys) (d++e):=by
 induction a with
 |Ac=>exact b
 |Aa h _ f=>exact .Aa h f
theorem zh.Ab(a:zh sc xs b):zh sc xs.reverse b.reverse:=by
 induction a with
 |Ac=>exact .Ac
 |Aa h _ d=>(refine af List.reverse_cons<|af List.reverse_cons ?_);exact d.Ad<|.Aa h .Ac
theorem zh.Ae(a:zh sc xs b):xs.length=b.length:=by
 induction a with
 |Ac=>rfl
 |Aa _ _ d=>exact Qt (·+1) d
theorem bN.Aj(a:bN J ρ h b vs):bN J ρ h b.reverse vs.reverse:=
 bN.Ae (P:=λb vs=>bN J ρ h b.reverse vs.reverse) a .Ad λ{u x b vs} r _ d=>by(refine af List.reverse_cons<|af List.reverse_cons ?_);exact d.Ah<|.Ab r .Ad
set_option tactic.hygienic true in
theorem zU(k:gJ sc env L):∀{xs:List Str} {b:List Nat},zh sc xs b->∀s ρ H m l a vs,FS U w J Y hz L m ρ H s.heap->LR J sc m l ρ s.heap->bN J ρ s.heap a vs->b.length=vs.length->
 aF U w J Y hz L A N ρ s (NR J sc) (assignInOrder (xs.map λn=>bindName env n) a) (.ok ((b.zip vs).foldl (λl p=>l.Aa p.1 p.2) l) H):=by
 intro xs b o
 induction o with
 |Ac=>
  intro s ρ H m l a vs Z d r f;exact aF.Ad Z d
 |Aa q C t=>
  rename_i x i xs b
  intro s ρ H m l a vs Z d r f
  cases r with
  |Ad=>injection f
  |Ab v z=>
   rename_i u y a ys
   haveI g:aF U w J Y hz L A N ρ s (NR J sc) (PySem.holding a (bindName env x u)>>= λ_=>assignInOrder (xs.map λn=>bindName env n) a) ((bJ.ok (l.Aa i y) H).Aa λl' H'=>.ok ((b.zip ys).foldl (λl p=>l.Aa p.1 p.2) l') H'):=by
    exact aF.Ae (aF.Af<|iy k q Z d v) λl' H' e m' ρ' h' tk _ B M j=>t {s with heap:=h',toks:=tk} ρ' H' m' l' a ys B j (bN.Ac Z.st Z.ns M z) (Nat.succ.inj f)
   exact g
theorem aF.Ac(g:aF U w J Y hz L A N ρ s (NR J sc) t r):aF U w J Y hz L A N ρ s (SR J sc) (t>>= λ_=>Pure.pure Flow.next) (r.Aa λl'=>AM.Ab (Fl.Aa,l')):=
 aF.Ae g λl' H' _ m' ρ' h' tk _ b M a=>aF.Ad (s:={s with heap:=h',toks:=tk}) b ⟨.Aa,a⟩
theorem aii(f:gJ sc env L)(g:cE n sc aA e=some x)(hs:pureOf (swappedStores [t] e<|aeI sc)=some none)(i:∀z p,t≠.Starred z p)
 (j:Ev U w J Y hz L A N sc env c (eval e env) x)(a:At U w J Y hz L A N sc env c (assign t env) k):St U w J Y hz L A N sc env c (exec (.Assign [t] e pos) env) (.A k x):=by
 intro s ρ H m l Z o;haveI q:exec (.Assign [t] e pos) env=(standAt pos>>= λ_=>swapsWith e (some t) pos.line env>>= λb=>if b=true then(evalThenUse e env λv=>assignAll v<|(assignEach [t] env).map (·.2))>>= λ_=>pure Flow.next else eval e env>>= λv=>swappedStores [t] e env>>= λy=>assignStores env v y<|(assignEach [t] env).map (·.2)):=rfl;exact af q<|aF.Aa<|af (abk g ..)<|af (pure_bind ..)<|af (Qe dd ..)<|j.Ab Z o λρ' H' h' tk u b B d M r=>af (lh f.Aa ..)<|af (of_pureOf hs ..)<|af (pure_bind ..)<|af (dL i)<|aF.Ac<|a {s with heap:=h',toks:=tk} ρ' H' m l u b B d r
theorem aij(F:A.handled=none)(z:gJ sc env L)(G:cE n sc aA e=some x)(hs:pureOf (swappedStores [t] e<|aeI sc)=some (some d))(I:d.mapM (jr sc)=some k)
 (P:Ev U w J Y hz L A N sc env c (eval e env) x):St U w J Y hz L A N sc env c (exec (.Assign [t] e pos) env) (.G k x):=by
 intro s ρ H m l Z W;haveI q:exec (.Assign [t] e pos) env=(standAt pos>>= λ_=>swapsWith e (some t) pos.line env>>= λb=>if b=true then(evalThenUse e env λv=>assignAll v<|(assignEach [t] env).map (·.2))>>= λ_=>pure Flow.next else eval e env>>= λv=>swappedStores [t] e env>>= λsw=>assignStores env v sw<|(assignEach [t] env).map (·.2)):=rfl;refine af q<|aF.Aa<|af (abk G ..)<|af (pure_bind ..)<|af (Qe dd ..)<|P.Ab Z W λρ' H' h' tk u b i o M r=>af (lh z.Aa ..)<|af (of_pureOf hs ..)<|af (pure_bind ..) ?_;haveI q2:∀st,assignStores env u (some d) st=(rule "assign.swapped-stores">>= λ_=>unpackItems u d.length none>>= λitems=>assignInOrder (d.reverse.map λn=>bindName env n) items.reverse>>= λ_=>pure Flow.next):=λ_=>rfl;refine af (q2 ..) ?_
 cases b with
 |F vs=>
  refine VR.Ag r λa B ht C=>?_;show aF U w J Y hz L A N ρ' _ _ _ ((be (k.length=vs.length) (AM.Ab<|(k.reverse.zip vs.reverse).foldl (λl p=>l.Aa p.1 p.2) l) H').Aa _);unfold be
  by_cases f:k.length=vs.length
  ·refine af (Qh f) ?_;intro Q E ee;refine aC<|wA ?_;have j:=zh.of I;refine af (show d.length=B.toArray.size from j.Ae.trans<|f.trans<|C.Aa.symm.trans Zc.symm)<|aL<|wpAny_unpackItems_tuple (s:={s with heap:=h',toks:=tk}) F ht λh1 hx=>aP (tD i hx) λD y=>?_;haveI g:=zU (N:=N) (A:=A) (w:=w) (U:=U) (Y:=Y) z j.Ab {s with heap:=h1,toks:=tk} ρ' H' m l B.reverse vs.reverse D (o.Aa i.st i.ns y) (bN.Ac i.st i.ns y C).Aj ((List.length_reverse ..).trans<|f.trans (List.length_reverse ..).symm);exact aF.Ac g Q E<|eG.Aa (s:={s with heap:=h',toks:=tk}) (tk:=tk) D y ee
  ·exact af (Qe f) aF.Ab
 |_=>exact aF.Ab
theorem Ev.Ad(a:gJ sc env L)(b:jr sc x=some i)(d:l i=some v)(Z:FS U w J Y hz L m ρ H s.heap)(e:LR J sc m l ρ s.heap)
 (k:∀u,VR J ρ s.heap u v->dz (model U w) A (f u) Q E s):dz (model U w) A (loadName env x>>= f) Q E s:=by
 refine aT (e x i v b d) λu g r=>?_;haveI j:env.scope.kind=.function:=by exact af a.Aa a.Ab
 haveI n:s.heap.Ns env.locals m:=by exact af a.Ac Z.ns
 exact aL<|wpAny_loadName_local j (by show env.scope.names.lookup x=_;exact af a.Aa<|jX b) n g<|k u r
theorem aik(n:gJ sc env L)(o:jr sc x=some i)(B:Ev U w J Y hz L A N sc env c (eval e env) y):St U w J Y hz L A N sc env c (exec (.AugAssign (.Name x j) .Add e pos) env) (.J i .Add y):=by
 intro s ρ H m l Z p;haveI q:exec (.AugAssign (.Name x j) .Add e pos) env=(standAt j>>= λ_=>loadName env x>>= λd=>PySem.holding [d] (eval e env)>>= λv=>standAt pos>>= λ_=>operate [d,v] (inplaceOp .Add d v)>>= λf=>standAt j>>= λ_=>bindName env x f>>= λ_=>pure Flow.next):=rfl;refine af q<|aF.Aa ?_;show aF U w J Y hz L A N ρ s (SR J sc) _ (cs (l i) _ H)
 cases C:l i with
 |none=>exact aF.Ab
 |some v=>
  intro Q E D;refine Ev.Ad n o C Z p λu r=>?_;haveI g:aF U w J Y hz L A N ρ s (SR J sc) (PySem.holding [u] (eval e env)>>= λv=>standAt pos>>= λ_=>operate [u,v] (inplaceOp .Add u v)>>= λf=>standAt j>>= λ_=>bindName env x f>>= λ_=>pure Flow.next)
   (AM.Aa (ak c y l) (λy=>AM.Aa (aic .Add v y) λz=>AM.Ab (Fl.Aa,l.Aa i z)) H):=by
   refine(B.Ac [u]).Ab Z p λρ' H' h' tk W F G k M I=>aF.Aa ?_
   cases v with
   |A a=>
    cases F with
    |A b=>
     refine VR.Aa r λt=>VR.Aa I λt2 Q E P=>aC<|oG<|jt<|AutoIntOps.iadd_0 ?_;refine aC<|cg ?_;haveI g:=iy (v:=Mine.V.A<|a+b) (A:=A) (N:=N) (s:={s with heap:=h',toks:=tk+1}) n o G k<|VR.Ac (a+b) tk;exact aF.Ac g Q E P
    |_=>exact aF.Ab
   |_=>exact aF.Ab
  exact g Q E D
end
end
section
section
variable (J:Nat->Value) (Y:Str->Option Addr)
noncomputable def ail(hr h':Heap)(e:Addr)(vs:Array Value):Option Value->Prop
 |none=>vs[1]?=some .none
 |some c=>∃T a b,vs[1]?=some (.ref T)/\hr.get? T=none/\T≠e/\h'.get? T=some a/\a.data=.fields b/\b[3]?=some c
structure XD(fr:List Addr)(hr h':Heap)(e:Addr)(k x:Str)(P:Option Value->Prop):Prop where
 kp:∀b o,hr.get? b=some o->b ∉ fr->h'.get? b=some o
 fr:∀b o,hr.get? b=some o->b∈fr->∃sl,h'.get? b=some {o with slots:=sl}
 Ac:∀G:Prop,(∀C ox d es n vs st,Y k=some C->h'.get? e=some ox->ox.cls=.ref C->notCls ox=true->ox.dict=some d->h'.get? d=some (dictOf es n)->(∀ρ h,nh J ρ h es [("why",.D x),("at",.A<|-1)])->
  ox.data=.fields vs->hr.get? e=none->hr.get? d=none->ail hr h' e vs st->P st->G)->G
def mS(hz:B0)(L:Addr):Heap->Heap->Addr->Str->Str->Prop:=λhr h' e k x=>XD J Y (L::hz.Aa) hr h' e k x λst=>st=none∨st=some .none∨st=some (rawInt L)
end
structure qD(A:Around)(env:Env)(hz:B0)(L:Addr):Prop where
 ex:∃outer,A.frames=some (env::outer)/\(∀e∈env::outer,e.scope.kind≠.module)/\outer.map (·.frame)=hz.Aa.map some
 Aa:env.frame=some L
section
variable {U:Program} {w:World} {J:Nat->Value} {Y:Str->Option Addr} {hz:B0} {h h' hr:Heap} {ρ ρ':List (Addr×Addr)} {H H':Hp} {L e:Addr} {m m' mg mb:Str->Option Value} {A:Around} {k x:Str} {P P':Option Value->Prop}
 {s:Shared} {E:Value->Shared->Prop} {env:Env} {fr:List Addr} {M:Model}
theorem XD.Ab(y:XD J Y fr hr h' e k x P)(o:∀st,P st->P' st):XD J Y fr hr h' e k x P':=
 ⟨y.kp,y.fr,λG K=>y.Ac G λC q d es n vs st a b c d' r f g i j l m p=>K C q d es n vs st a b c d' r f g i j l m<|o _ p⟩
theorem rN(F:qD A env hz L):∃d,A.frames=some (env::d)/\(env::d).filterMap (·.frame)=L::hz.Aa/\(∀e∈env::d,e.scope.kind≠.module)/\d.map (·.frame)=hz.Aa.map some:=by
 refine eI F.ex λd a b c=>pZ d a ?_ b c;refine af List.filterMap_cons<|af F.Aa ?_;dsimp only;congr 1;haveI:∀(o:List Env) (l:List Addr),o.map (·.frame)=l.map some->o.filterMap (·.frame)=l:=by
  intro o
  induction o with
  |nil=>intro l h;cases l with|nil=>rfl|cons _ _=>simp at h
  |cons e o f=>
   intro l h
   cases l with
   |nil=>simp at h
   |cons y l=>
    simp only [Zu,List.cons.injEq] at h;refine af List.filterMap_cons<|af h.1 ?_;dsimp only;exact af (f l h.2) rfl
 exact this _ _ c
theorem zV(g:∀b,base.get? b=none):∀{l:List Env} {as:List Addr},l.map (·.frame)=as.map some->(∀e∈l,e.scope.kind≠.module)->(∀f∈as,∃o,h.get? f=some o/\∃es ep,o.data=.dict es ep)->h.FunFrames base l:=by
 intro l
 induction l with
 |nil=>intros;trivial
 |cons e l r=>
  intro as q a c
  cases as with
  |nil=>injection q
  |cons f as=>
   refine aP (List.cons.inj q) λq i=>aT (c f<|.head _) λo j d=>ip d λes ep n=>?_;clear d;exact⟨a e<|.head _,wc f o q (g _) j<|λvs q=>by rw [n] at q;injection q,r i (λp h=>a p<|.tail _ h) λt h=>c t<|.tail _ h⟩
theorem nj(Z:FS U w J Y hz L m ρ H hr)(y:XD J Y (L::hz.Aa) hr h' e k x P):∀f∈L::hz.Aa,∃o,h'.get? f=some o/\∃es ep,o.data=.dict es ep:=by
 intro f b;haveI a:∃o,hr.get? f=some o/\∃es ep,o.data=.dict es ep:=by
  rcases Qz.mp b with rfl|b
  ·exact kf Z.ns λo es ep c d _=>bv o c<|fK es ep d
  ·exact(Z.Ac f b).2.2.1
 refine aT a λo c g=>?_;clear a;refine ip g λes ep d=>?_;clear g;exact bC (y.fr f o c b) λi hs=>bv _ hs<|fK es ep d
theorem my(c:hr.get? e=none)(a:hr.get? b=some o):b≠e:=λq=>by rw [q,c] at a;exact ar a
theorem XD.Ae(F:qD A env hz L)(Z:FS U w J Y hz L m ρ H hr)(y:XD J Y (L::hz.Aa) hr s.heap e k x P)
 (h:∀h',XD J Y (L::hz.Aa) hr h' e k x (λst=>st=some (rawInt L))->Q () {s with heap:=h'}):
 wpAny M A (do let a ←frameOf env;let pl ←entryPlaceOf L R;let b ←EntryCells.newEntry v a .none (rawInt L) .none pl;setField (.ref e) 1 b) Q E s:=by
 refine zc (rN F) λz a8 B hk W=>?_;haveI ff:s.heap.FunFrames {objs:= #[]} (env::z):=zV (as:=L::hz.Aa) (λb=>by cases q:Heap.get? {objs:= #[]} b with|none=>rfl|some o=>exact absurd (QP q)<|Nat.not_lt_zero _) (by(exact af Zu<|af Zu<|af F.Aa<|af W rfl)) hk<|nj Z y;refine y.Ac _ λC ox d es n vs st hC he a1 b0 D hd b1 f G a2 i hP=>?_;have hsz:1<vs.size:=by
  cases st with
  |none=>exact(Array.getElem?_eq_some_iff.mp i).1
  |some fl=>refine oq i λT oT ts h1 _=>?_;clear i;exact(Array.getElem?_eq_some_iff.mp h1).1
 have a3:e ∉ L::hz.Aa:=λW=>by
  refine aT (nj Z y e W) λo t z3=>ip z3 λd1 d2 a4=>?_;clear z3;rw [he] at t;haveI z4:=Qb t;subst z4;rw [f] at a4;injection a4
 haveI a5:d ∉ L::hz.Aa:=λW=>by
  haveI:∃o,hr.get? d=some o:=by
   rcases Qz.mp W with rfl|u
   ·exact kf Z.ns λo es ep t hd _=>⟨o,t⟩
   ·exact aT ((Z.Ac d u).2.2.1) λo t _=>⟨o,t⟩
  refine bC this λo t=>?_;clear this;rw [a2] at t;exact ar t
 haveI b2:d≠e:=λq=>by rw [q,he] at hd;haveI z5:=Qb hd;subst z5;injection f
 refine Qc<|wpAny_frameOf_fun a8 ff F.Aa λc g=>?_;rw [B] at g;refine Qc<|wpAny_entryPlaceOf λpl hpl=>?_;refine Qc<|wpAny_newObj_type ?_<|hpl.sizeOk5 _ _ _ _ _;have j:c.get? e=some ox:=(g.2.1 e a3).trans he;haveI I:c.get? d=some (dictOf es n):=(g.2.1 d a5).trans hd;haveI l:=Qu (h:=c) {cls:=.type "traceback",dict:=none,data:=.fields ([v,.ref L,.none,rawInt L,.none]++(if pl.isEmpty then List.replicate 6 Value.none else pl)).toArray} j;refine wpAny_setField l f hsz<|h _ ?_;haveI a6:c.objs.size≠e:=ZA<|QP j;haveI p:=Obj.data_mapFields f (·.setIfInBounds 1 (Value.ref c.objs.size));have r:∀b o,b≠e->c.get? b=some o->((c.push {cls:=.type "traceback",dict:=none,data:=.fields ([v,.ref L,.none,rawInt L,.none]++(if pl.isEmpty then List.replicate 6 Value.none else pl)).toArray}).update e<|Obj.mapFields (·.setIfInBounds 1 (Value.ref c.objs.size))).get? b=some o:=λb o b3 N=>by
  refine af (QS _ _<|Ne.symm b3) ?_;exact Qu _ N
 have b4:hr.get? c.objs.size=none:=by
  cases q:hr.get? c.objs.size with
  |none=>rfl
  |some o=>
   have:∃o',s.heap.get? c.objs.size=some o':=by
    by_cases u:c.objs.size∈L::hz.Aa
    ·exact bC (y.fr _ o q u) λsl hs=>⟨_,hs⟩
    ·exact⟨_,y.kp _ o q u⟩
   refine bC this λo' b5=>?_;clear this;have:=QP b5;rw [g.1] at this;exact absurd this<|Nat.lt_irrefl _
 refine⟨λb o N u=>r b o (my G N)<|(g.2.1 b u).trans<|y.kp b o N u,λb o N u=>?_,λ_ K=>K C (ox.mapFields (·.setIfInBounds 1 (Value.ref c.objs.size))) d es n _ (some<|rawInt L) hC (Zb _ l<|Obj.isFreed_of_fields p) ?_ ?_ ?_ (r d _ b2 I) b1 p G a2 (ahi c.objs.size _ _ (by simp [hsz]) b4 a6 ((QS _ _<|Ne.symm a6).trans<|QI c rfl) rfl ?_) rfl⟩
 ·exact bC (y.fr b o N u) λsl hs=>bC (g.2.2 b _ hs) λb6 b7=>⟨b6,r b _ (my G N) b7⟩
 ·obtain⟨c1,c2,c3,c4⟩:=ox;simp only at f;subst f;exact a1
 ·obtain⟨c1,c2,c3,c4⟩:=ox;simp only at f;subst f;exact b0
 ·obtain⟨c1,c2,c3,c4⟩:=ox;simp only at f;subst f;exact D
 ·first|(simp;done)|(rcases hpl with rfl|⟨_,_,_,_,_,_,_,rfl⟩<;>simp)
theorem XD.Ad(Z:FS U w J Y hz L m ρ H hr)(y:XD J Y (L::hz.Aa) hr h' e k x P){T:Addr}(R:h'.get? e=some W)(f:W.data=.fields vs)(h1:vs[1]?=some (.ref T))(hT:h'.get? T=some oT)(g:oT.data=.fields ts)(h3:3<ts.size)(i:hr.get? T=none)(p:T≠e)(v:Value):
 XD J Y (L::hz.Aa) hr (h'.update T<|Obj.mapFields (·.setIfInBounds 3 v)) e k x (λst=>st=some v):=by
 refine y.Ac _ λC a5 d es n a6 st hC r t u j z B c D F G hP=>?_;rw [R] at r;haveI z6:=Qb r;subst z6;rw [f] at c;injection c with z7;subst z7;have a:∀b,b≠T->(h'.update T<|Obj.mapFields (·.setIfInBounds 3 v)).get? b=h'.get? b:=λb l=>QS _ _<|Ne.symm l;haveI I:d≠T:=λq=>by rw [q,hT] at z;haveI z8:=Qb z;subst z8;injection g
 haveI N:=Zb (Obj.mapFields (·.setIfInBounds 3 v)) hT<|Obj.isFreed_of_fields<|Obj.data_mapFields g _;refine⟨λb o l Q=>(a b<|my i l).trans<|y.kp b o l Q,λb o l Q=>?_,λ_ K=>K C W d es n vs (some v) hC ((a e<|Ne.symm p).trans R) t u j ((a d I).trans z) B f D F (ahi T _ _ h1 i p N (Obj.data_mapFields g _)<|by simp [h3]) rfl⟩;exact bC (y.fr b o l Q) λsl hs=>⟨sl,(a b<|my i l).trans hs⟩
theorem XD.Aa(Z:FS U w J Y hz L m ρ H hr)(y:XD J Y (L::hz.Aa) hr s.heap e k x (λst=>st≠none))(f:Option Addr)
 (h:∀h',XD J Y (L::hz.Aa) hr h' e k x (λst=>st=some (f.elim .none λf=>rawInt f))->Q () {s with heap:=h'}):wpAny M A (PySem.setFlight (.ref e) f) Q E s:=by
 refine y.Ac _ λC F d es n vs st G o p t i I u b v z a B=>?_
 cases st with
 |none=>exact absurd rfl B
 |some K=>
  refine ahh a λT N R q j l r c D=>?_;clear a;haveI g:=(Array.getElem?_eq_some_iff.mp D).1;refine Qc<|wpAny_field o b q ?_;exact af (Qh (show(Value.ref T != Value.none)=true from by simp))<|wpAny_setField r c g<|h _<|y.Ad Z o b q r c g j l _
theorem XD.Af(F:qD A env hz L)(Z:FS U w J Y hz L m ρ H hr)(y:mS J Y hz L hr s.heap e k x)
 (h:∀h',XD J Y (L::hz.Aa) hr h' e k x (λst=>st=some (rawInt L))->Q () {s with heap:=h'}):wpAny M A (noteFrame (.ref e) env) Q E s:=by
 refine y.Ac _ λC G d es n vs st I o g q f N r b t u a hP=>?_;unfold noteFrame;simp only [F.Aa]
 cases st with
 |none=>
  refine Qc<|wpAny_field o b a ?_;exact af (Qe dd)<|XD.Ae F Z y h
 |some D=>
  refine ahh a λT R W v i j p c z=>?_;clear a;haveI l:=(Array.getElem?_eq_some_iff.mp z).1;refine Qc<|wpAny_field o b v ?_;refine af (Qh (show(Value.ref T != Value.none)=true from by simp))<|Qc<|wpAny_field p c z ?_
  by_cases B:(D ==rawInt L)=true
  ·refine af (Qh B)<|Qp<|h _ ?_;haveI:D=rawInt L:=eq_of_beq B;subst this;exact⟨y.kp,y.fr,λ_ K=>K C G d es n vs (some<|rawInt L) I o g q f N r b t u (ahi T R W v i j p c z) rfl⟩
  ·refine af (Qe B)<|Qc<|wpAny_setField p c l ?_;exact XD.Ae (s:={s with heap:=s.heap.update T (Obj.mapFields (·.setIfInBounds 3 .none))}) F Z (y.Ad Z o b v p c l i j .none) h
end
end
section
namespace BA
theorem Am:typeLookup (.type "bytearray_iterator") "__next__"=pure (some<|.builtin "bytearray_iterator.__next__"):=by(refine af (Zj ..)<|af (QV ..) ?_);kernel_rfl
theorem Ag:Slot "bytearray_iterator" "__next__" "bytearray_iterator.__next__":=
 .of (owner:="bytearray_iterator") (n:="__next__") Am (by decide+kernel) (by decide+kernel) (by decide+kernel)
  (by first|exact .inl (by decide+kernel)|exact .inr<|by decide+kernel) (by refine af (isSubtype_type ..) ?_;kernel_rfl)
theorem Aq:entryFor table "bytearray_iterator.__next__"=some Builtin.«bytearray_iterator.__next__»:=entryFor_of_tree (by kernel_rfl)
theorem AW(a:Value):argsOk "bytearray_iterator.__next__" ⟨[a],[]⟩:=by unfold argsOk;kernel_rfl
def Ao(h:Heap)(a t:Addr)(i:Nat):Prop:=∃o,h.get? a=some o/\o.cls=.type "bytearray_iterator"/\o.data=.fields #[.ref t,.int i 0]
theorem Ao.Aa{s:Shared}(x:Ao s.heap a t i):s.TypeIs (.ref a) "bytearray_iterator":=eI x λo b c _=>bv o b c
section
variable {U:Program} {w:World} {A:Around} {E:Value->Shared->Prop} {s:Shared} {t it:Addr} {l:List UInt8} {i:Nat}
theorem AE(b:s.heap.get? t=some (Ai l))(c:Q (.ref s.heap.objs.size) {s with heap:=s.heap.push {cls:=.type "bytearray_iterator",data:=.fields #[.ref t,.int 0 0]}}):wpAny (model U w) A (pyIter<|.ref t) Q E s:=by
 haveI a:s.TypeIs (.ref t) "bytearray":=bv _ b rfl;refine wpAny_pyIter_slot a An<|wpAny_call_entry An a Ax ?_<|AX _;show wpAny _ _ (do ret (←newFields "bytearray_iterator" [.ref t,rawInt 0])) _ _ s;exact Qc<|wpAny_newObj_type<|Qp<|bv _ rfl<|qe "bytearray_iterator" _ (bv _ (QI _ rfl) rfl) Am c
theorem AY{c:UInt8}(a:Ao s.heap it t i)(e:s.heap.get? t=some (Ai l))(f:l[i]?=some c)
 (g:∀h',Ao h' it t (i+1)->Heap.SameBut it s.heap h'->Q (some<|.int (c.toNat:Int) s.toks) {s with heap:=h',toks:=s.toks+1}):wpAny (model U w) A (pyNext<|.ref it) Q E s:=by
 refine eI (id a) λo d j b=>Qc<|wpAny_attempt<|wpAny_callSpecial?_slot (name:=PySem.Str.ofString "__next__") a.Aa Ag<|wpAny_call_entry Ag a.Aa Aq ?_<|AW _;show wpAny _ _ (field (.ref it) 0>>= _) _ _ s;refine Qc<|wpAny_field d b (x:=.ref t) rfl ?_;refine Qc<|wpAny_load e ?_;refine Qc<|wpAny_field d b (x:=.int i 0) rfl ?_;simp only [Int.toNat_natCast,ZB,f];refine Qc<|wpAny_setField d b (by simp)<|Qc<|wpAny_mkInt<|Qp<|bv _ rfl<|Qp<|g _ ?_<|Heap.SameBut.update ..;exact⟨_,Zb _ d<|Obj.isFreed_of_fields<|Obj.data_mapFields b _,(Obj.cls_mapFields ..).trans j,by
  refine af (Obj.data_mapFields b ..) ?_;simp [rawInt]⟩
theorem Bd{Q:Option Value->Shared->Prop}(d:A.handled=none)(a:Ao s.heap it t i)(e:s.heap.get? t=some (Ai l))(f:l[i]?=none)
 (g:∀h',Heap.ExtBut it s.heap h'->Q none {s with heap:=h'}):wpAny (model U w) A (pyNext<|.ref it) Q E s:=by
 refine eI (id a) λo b j c=>Qc<|wpAny_attempt<|wpAny_callSpecial?_slot (name:=PySem.Str.ofString "__next__") a.Aa Ag<|wpAny_call_entry Ag a.Aa Aq ?_<|AW _;show wpAny _ _ (field (.ref it) 0>>= _) _ _ s;refine Qc<|wpAny_field b c (x:=.ref t) rfl ?_;refine Qc<|wpAny_load e ?_;refine Qc<|wpAny_field b c (x:=.int i 0) rfl ?_;simp only [Int.toNat_natCast,ZB,f];refine Qc<|wpAny_rule<|Qc<|wpAny_setField b c (by simp) ?_;refine Qc<|wpAny_letGo ?_;refine Qc ?_;simp only [newExc,newTuple];refine Qc<|wpAny_newObj_type ?_ (by size_fits);refine Qc (m:=firstArgMember _ _)<|QZ (a:=Value.none) (by first|rfl|(simp only [firstArgMember];rfl)) ?_;refine wpAny_newObj_type ?_ (by size_fits);refine Qc<|wpAny_handled ?_;refine af (show A.in1.handled=none from d)<|Qc<|Qp<|wpAny_throw ?_;refine Qc<|wpAny_isInstance (T:="StopIteration") (b:=true) (bv _ (QI _ rfl) rfl) isSubtype_stop ?_;exact Qp<|g _<|((Heap.SameBut.update ..).extBut.push _).push _
end
end BA
section
variable {U:Program} {w:World} {J:Nat->Value} {Y:Str->Option Addr} {hz:B0} {h h' hr:Heap} {ρ ρ':List (Addr×Addr)} {H H':Hp} {L I:Addr} {m m' mg mb:Str->Option Value} {A:Around}
abbrev uL(h h':Heap):Prop:=∀a o,h.get? a=some o->(o.cls=.type "tuple"∨o.cls=.type "range")->(∀es ep,o.data≠.dict es ep)->h'.get? a=some o
theorem afN(k:uL h h'):Mp ρ h ρ h':=
 ⟨λa=>eI a λo d b z=>bC z λn c=>cz o (k _ o d (.inl b)<|abl c) b ⟨n,c⟩,λa=>k _ _ a (.inr rfl)<|λ_ _ e=>by injection e,λe=>e⟩
theorem VR.Ay(k:uL h h')(r:VR J ρ h v d):VR J ρ h' v d:=r.Aw<|afN k
theorem bN.Aq(k:uL h h')(r:bN J ρ h v d):bN J ρ h' v d:=r.An<|afN k
theorem fC.Af(k:uL h h')(r:fC U w J Y ρ h p o)(a:∀o,h.get? p.1=some o->h'.get? p.1=some o)(b:∀o,h.get? p.2=some o->h'.get? p.2=some o):fC U w J Y ρ h' p o:=r.Ad (afN k) a b
theorem LR.Ab(k:uL h h')(r:LR J sc m l ρ h):LR J sc m l ρ h':=λx i v c d=>aT (r x i v c d) λu a b=>bv u a<|b.Ay k
def im(ρ:List (Addr×Addr))(h:Heap)(I:Addr):Prop:=(∃o vs,h.get? I=some o/\o.data=.fields vs/\o.cls≠.type "tuple"/\o.cls≠.type "range")/\∀p∈ρ,I≠p.1/\I≠p.2
theorem im.Aa(x:im ρ h I)(k:∀b o,b≠I->h.get? b=some o->h'.get? b=some o):uL h h':=λa o d c _=>k a o (λq=>by
 refine aP x λf _=>?_;clear x;refine zd f λo' vs e _ g j=>?_;clear f;rw [q,e] at d;haveI n:=Qb d;subst n;rcases c with c|c
 ·exact g c
 ·exact j c) d
theorem FS.As(F:FS U w J Y hz L m ρ H h)(x:im ρ h I)(C:hz.get? I=none)(k:∀b o,b≠I->h.get? b=some o->h'.get? b=some o):FS U w J Y hz L m ρ H h':=by
 refine aP (id x) λv D=>zd v λN vs j n P Q=>?_;clear v;haveI G:L≠I:=λq=>by refine kf F.ns λo es ep d g _=>?_;rw [q,j] at d;injection d with z8;subst z8;rw [n] at g;injection g
 haveI st:=x.Aa k;refine⟨⟨λb o e=>k b o (λq=>by rw [q,C] at e;exact ar e)<|F.st.Aa b o e,F.st.Ab,λi o p K y=>?_,F.st.inj,F.st.Ad⟩,?_,F.nL,F.Aa,λf M=>?_⟩
 ·haveI z:=D p<|bw y;exact(F.st.Ac i o p K y).Af st (λo e=>k _ o z.1.symm e)<|λo e=>k _ o z.2.symm e
 ·exact oq F.ns λo es ep d r=>alq o es ep (k _ o G d) r
 ·refine gF (F.Ac f M) λa b B c=>aT B λo d u=>?_;clear B;refine ip u λes ep g=>?_;clear u;refine⟨a,b,bv o (k _ o (λq=>?_) d)<|fK es ep g,c⟩;rw [q,j] at d;injection d with z11;subst z11;rw [n] at g;injection g
theorem Mv.Ag(M:Mv L ρ d ρ' h)(f:d.get? I=none)(k:∀b o,b≠I->h.get? b=some o->h'.get? b=some o):Mv L ρ d ρ' h':=by
 refine⟨λb o e g j=>?_,M.Ab⟩;have a:b≠I:=λq=>by rw [q,f] at e;exact ar e
 rcases M.kp b o e g j with c|⟨n,p,c⟩
 ·exact .inl<|k b o a c
 ·exact .inr ⟨n,p,k b _ a c⟩
theorem im.Ab(x:im ρ h I)(F:FS U w J Y hz L m ρ H h)(M:Mv L ρ h ρ' h'):im ρ' h' I:=by
 refine aP x λc f=>?_;clear x;refine zd c λo vs a d j k=>?_;clear c;haveI n:I≠L:=zW F.ns a (by rw [d];nofun);refine⟨wc o vs (M.Ac a n f (by rw [d];nofun)) d j k,λp b=>?_⟩;refine aT M.Ab λt e g=>?_;subst e;rcases Zd.mp b with b|b
 ·exact f p b
 ·exact⟨λq=>by rw [q,(g p b).1] at a;injection a,λq=>by rw [q,(g p b).2] at a;injection a⟩
inductive vj(J:Nat->Value)(ρ:List (Addr×Addr))(h:Heap)(I:Addr)(k:Nat):(Nat->AM (Option Mine.V))->Prop
 |Ag {a:Addr}{vs:List Value}{l:List Mine.V}:h.IsTupleIter I a k->h.IsTuple a vs.toArray->bN J ρ h vs l->vj J ρ h I k (dO<|.F l)
 |Aa {l:List UInt8}{t:Tok}:KBw.IsBytesIter h I l.toArray t k->vj J ρ h I k (dO<|.G l)
 |Ah {n:Int}:IsRangeIter h I k (max n 0 - k) 1->(k:Int)<=max n 0->vj J ρ h I k (dO<|.I n)
 |Ab {i:Nat}{p:Addr×Addr}:ρ[i]?=some p->h.IsListIter I p.1 k->vj J ρ h I k (lg i)
 |Ac {i:Nat}{p:Addr×Addr}:ρ[i]?=some p->BA.Ao h I p.1 k->vj J ρ h I k (uA i)
 |Ad {i e:Nat}{p:Addr×Addr}{es:List (Str×Mine.V)}:ρ[i]?=some p->h.IsKeyIter I p.1 k es.length e->vj J ρ h I k (uB i es<|some e)
end
end
section
section
variable {U:Program} {w:World} {J:Nat->Value} {Y:Str->Option Addr} {hz:B0} {h h' hr:Heap} {ρ ρ':List (Addr×Addr)} {H H':Hp} {L I:Addr} {m m' mg mb:Str->Option Value} {A:Around}
 {s:Shared} {E:Value->Shared->Prop} {src:Nat->AM (Option Mine.V)} {k:Nat}
theorem gw.Ao{i:Nat}(r:gw J ρ h kvs l)(e:l[i]?=some (x,y)):∃u,kvs[i]?=some (x,u)/\VR J ρ h u y:=by
 induction r generalizing i with
 |Ae=>exact ar e
 |Ac a _ b=>
  cases i with
  |zero=>injection e with e;injection e with e1 e2;subst e1 e2;exact bv _ rfl a
  |succ i=>exact b e
theorem zX(d:h.IsTuple a c)(x:im ρ h I)(k:∀b o,b≠I->h.get? b=some o->h'.get? b=some o):h'.IsTuple a c:=by
 refine eI d λo i e f=>?_;clear d;refine bC f λn g=>?_;clear f;exact cz o ((x.Aa k) a o i (.inl e) (by refine af g ?_;nofun)) e ⟨n,g⟩
theorem aeM{o:Obj}(h:o.cls=.type a)(n:a≠b):o.cls≠.type b:=λe=>n<|Value.type.inj<|h.symm.trans e
theorem im.of{c:String}(b:∃o,h.get? I=some o/\o.cls=.type c/\o.data=.fields vs)(d:c≠"tuple")(e:c≠"range")(f:∀p∈ρ,I≠p.1/\I≠p.2):im ρ h I:=
 eI b λo g a i=>⟨wc o vs g i (aeM a d)<|aeM a e,f⟩
set_option tactic.hygienic true in
theorem vj.Ae(P:(hz.get? sysModules).isSome=true)(Z:FS U w J Y hz L m ρ H s.heap)(it:vj J ρ s.heap I k src)(x:im ρ s.heap I)(d:src k H=.ok (some v) H1){Q:Option Value->Shared->Prop}
 (q:∀u h' tk,(∀b o,b≠I->s.heap.get? b=some o->h'.get? b=some o)->vj J ρ h' I (k+1) src->im ρ h' I->VR J ρ h' u v->Q (some u) {s with heap:=h',toks:=tk}):
 H1=H/\wpAny (model U w) A (pyNext<|.ref I) Q E s:=by
 have g:∀{h':Heap},Heap.SameBut I s.heap h'->∀b o,b≠I->s.heap.get? b=some o->h'.get? b=some o:=λsb b o hb e=>(sb.2 b hb).trans e
 cases it with
 |Ag f R hr=>
  haveI e1:=(bJ.ok.inj d).1;haveI e2:=(bJ.ok.inj d).2;subst e2;refine aT (hr.Al e1) λu z r=>⟨rfl,wpAny_pyNext_tuple_item f R (ZB.trans z) λh' a sb=>?_⟩;exact q u h' s.toks (g sb) (.Ag a (zX R x<|g sb)<|bN.Aq (x.Aa<|g sb) hr) (im.of a dd dd x.2)<|r.Ay<|x.Aa<|g sb
 |Aa f=>
  injection d with e1 e2;subst e2;refine aT (Zw.mp e1) λc p z4=>?_;subst z4;exact⟨rfl,KBw.next_item f (c:=c) (ZB.trans p) λh' a sb=>q _ h' _ (g sb) (.Aa a) (im.of a dd dd x.2)<|.Ac _ _⟩
 |Ah f hk=>
  refine mV d λD d=>?_;injection d with e1 e2;subst e2;refine uC e1 λa3 e1=>?_;haveI z5:=Qb e1;subst z5;refine⟨rfl,wpAny_pyNext_range_item f (by lia) λh' a sb=>q _ h' _ (g sb) (.Ah ?_<|by lia) (im.of (cz _ a rfl rfl) dd dd x.2)<|.Ac _ _⟩;exact af (Int.natCast_add ..)<|cI (Int.sub_sub ..) a
 |Ab i f=>
  refine oB d λo B d=>?_
  cases o with
  |A l=>
   haveI e1:=(bJ.ok.inj d).1;haveI e2:=(bJ.ok.inj d).2;subst e2;exact aP (Z.st.Ac _ _ _ B i) λ_ z7=>cM z7 λvs n F hr=>aT (hr.Al e1) λu z r=>⟨rfl,wpAny_pyNext_list_item (items:=vs.toArray) f (cz _ F rfl ⟨n,rfl⟩) (ZB.trans z) λh' a sb=>q u h' s.toks (g sb) (.Ab i a) (im.of a dd dd x.2)<|r.Ay<|x.Aa<|g sb⟩
  |_=>exact qy d
 |Ac i f=>
  refine oB d λo B d=>?_
  cases o with
  |D l=>
   injection d with e1 e2;subst e2;refine aT (Zw.mp e1) λc p z9=>?_;subst z9;exact aP (Z.st.Ac _ _ _ B i) λ_ F=>⟨rfl,BA.AY (l:=l) (c:=c) f F p λh' a sb=>q _ h' _ (g sb) (.Ac i a) (im.of a dd dd x.2)<|.Ac _ _⟩
  |_=>exact qy d
 |Ad i f=>
  rename_i es
  refine oB d λo B d=>?_
  cases o with
  |B l' a7=>
   refine mV d λD d=>?_;injection d with e1 e2;subst e2;refine aT (Zw.mp e1) λy hy G=>?_;subst G;refine aP (Z.st.Ac _ _ _ B i) λ_ K=>dN K λkvs ek dk he W=>?_;haveI M:=he _ D.2.1;subst M;have j:kvs.length=es.length:=W.Aa.trans D.1;rw [←j] at f;refine aT (W.Ao hy) λu z r=>⟨rfl,wpAny_pyNext_dict_item f dk z λkey h' C a sb=>bC (Value.isStrOf_shape C) λt N=>?_⟩;subst N;exact q _ h' s.toks (g sb) (.Ad i<|j ▸a) (im.of a dd dd x.2)<|.Am _ _
  |_=>exact qy d
theorem oH{l:List a}{vs:List b}(e:vs.length=l.length)(q:l[k]?=none):vs[k]?=none:=List.getElem?_eq_none_iff.mpr<|Qa (Qk e)<|List.getElem?_eq_none_iff.mp q
theorem acN{_:Decidable p}{m:AM a}(h:¬p):be p m H=.Ab:=by rw [be,Qe h];rfl
set_option tactic.hygienic true in
theorem vj.Af(f:A.handled=none)(Z:FS U w J Y hz L m ρ H s.heap)(z:vj J ρ s.heap I k src)(a:src k H=.ok none H1){Q:Option Value->Shared->Prop}
 (x:∀h',(∀b o,b≠I->s.heap.get? b=some o->h'.get? b=some o)->Q none {s with heap:=h'}):H1=H/\wpAny (model U w) A (pyNext<|.ref I) Q E s:=by
 have c:∀h',Heap.ExtBut I s.heap h'->Q none {s with heap:=h'}:=λh' e=>x h' e;clear x
 cases z with
 |Ag d B hr=>
  injection a with e1 e2;subst e2;exact⟨rfl,wpAny_pyNext_tuple_end f d B (ZB.trans<|oH hr.Aa e1) c⟩
 |Aa d=>
  injection a with e1 e2;subst e2;exact⟨rfl,KBw.next_end f d (ZB.trans<|Option.map_eq_none_iff.mp e1) c⟩
 |Ah d G=>
  rename_i n
  refine mV a λp a=>?_;injection a with e1 e2;subst e2
  by_cases q:(k:Int)<n
  ·rw [Qh q] at e1;injection e1
  ·exact⟨rfl,wpAny_pyNext_range_end f d (by lia) c⟩
 |Ab g d=>
  refine oB a λo i a=>?_
  cases o with
  |A l=>
   injection a with e1 e2;subst e2;exact aP (Z.st.Ac _ _ _ i g) λ_ r=>cM r λvs n t hr=>⟨rfl,wpAny_pyNext_list_end (items:=vs.toArray) f d (cz _ t rfl ⟨n,rfl⟩) (ZB.trans<|oH hr.Aa e1) c⟩
  |_=>exact qy a
 |Ac g d=>
  refine oB a λo i a=>?_
  cases o with
  |D l=>
   injection a with e1 e2;subst e2;exact aP (Z.st.Ac _ _ _ i g) λ_ t=>⟨rfl,BA.Bd (l:=l) f d t (Option.map_eq_none_iff.mp e1) c⟩
  |_=>exact qy a
 |Ad g d=>
  rename_i es
  refine oB a λo i a=>?_
  cases o with
  |B l' C=>
   refine mV a λp a=>?_;injection a with e1 e2;subst e2;refine aP (Z.st.Ac _ _ _ i g) λ_ u=>dN u λkvs K D F y=>?_;haveI v:=F _ p.2.1;subst v;haveI j:kvs.length=es.length:=y.Aa.trans p.1;rw [←j] at d;exact⟨rfl,wpAny_pyNext_dict_end f d D (oH y.Aa<|Option.map_eq_none_iff.mp e1) c⟩
  |_=>exact qy a
theorem vL{f:O->AM b}(k:∀o,f o H=.Ab∨∃a,f o H=.ok a H):AM.Aa (Mine.bX i) f H=.Ab∨∃a,AM.Aa (Mine.bX i) f H=.ok a H:=by
 unfold AM.Aa Mine.bX
 cases H[i]? with
 |none=>exact .inl rfl
 |some o=>exact k o
theorem tF{_:Decidable p}:be p (AM.Ab a) H=.Ab∨∃b,be p (AM.Ab a) H=.ok b H:=by
 by_cases q:p
 ·exact .inr ⟨a,by rw [be,Qh q];rfl⟩
 ·exact .inl (by rw [be,Qe q];rfl)
theorem aim(c:vj J ρ h I k src):src k H=.Ab∨∃o,src k H=.ok o H:=by
 cases c with
 |Ag=>exact .inr ⟨_,rfl⟩
 |Aa=>exact .inr ⟨_,rfl⟩
 |Ah=>exact tF
 |Ab a b=>exact vL λo=>by cases o<;>first|exact .inl rfl|exact .inr ⟨_,rfl⟩
 |Ac a b=>exact vL λo=>by cases o<;>first|exact .inl rfl|exact .inr ⟨_,rfl⟩
 |Ad a b=>exact vL λo=>by cases o<;>first|exact .inl rfl|exact tF
theorem vj.Ai(G:vj J ρ h I k src)(x:im ρ h I)(Z:FS U w J Y hz L m ρ H h)(M:Mv L ρ h ρ' h'):vj J ρ' h' I k src:=by
 refine aP (id x) λj K=>zd j λo vs B C R W=>?_;clear j;have N:I≠L:=zW Z.ns B (by refine af C ?_;nofun);have g:∀o',h.get? I=some o'->h'.get? I=some o':=λo' f=>M.Ac f N K (by rw [B] at f;haveI r:=Qb f;subst r;refine af C ?_;nofun);have u:∀(i:Nat) (p:Addr×Addr),ρ[i]?=some p->ρ'[i]?=some p:=λi p e=>by
  refine aT M.Ab λt v _=>?_;subst v;refine af (Qj (Qg.mp e).1) ?_;exact e
 cases G with
 |Ag a D hr=>
  refine aT a λb c d=>?_;clear a;refine eI D λP y F l=>?_;clear D;refine bC l λn z=>?_;clear l;exact .Ag (bv b (g _ c) d) (cz P (M.Ac y (zW Z.ns y (by rw [z];nofun)) (Z.st.Ae y<|.inl F) (by rw [z];nofun)) F ⟨n,z⟩)<|bN.Ac Z.st Z.ns M hr
 |Aa a=>refine aT a λb c d=>?_;clear a;exact .Aa<|bv b (g _ c) d
 |Ah a Q=>exact .Ah (g _ a) Q
 |Ab q a=>refine aT a λb c d=>?_;clear a;exact .Ab (u _ _ q)<|bv b (g _ c) d
 |Ac q a=>refine aT a λb c d=>?_;clear a;exact .Ac (u _ _ q)<|bv b (g _ c) d
 |Ad q a=>refine aT a λb c d=>?_;clear a;exact .Ad (u _ _ q)<|bv b (g _ c) d
theorem acO(x:(hz.get? sysModules).isSome=true)(Z:FS U w J Y hz L m ρ H s.heap)(r:VR J ρ s.heap u v)(g:lf v H 0 H≠.Ab){Q:Value->Shared->Prop}
 (d:∀h' tk,(∀b o,s.heap.get? b=some o->h'.get? b=some o)->vj J ρ h' s.heap.objs.size 0 (lf v H)->im ρ h' s.heap.objs.size->Q (.ref s.heap.objs.size) {s with heap:=h',toks:=tk}):
 wpAny (model U w) A (pyIter u) Q E s:=by
 have c:∀p∈ρ,s.heap.objs.size≠p.1/\s.heap.objs.size≠p.2:=λp j=>by
  refine dN (Z.st.at j) λ_ _ _ _ hr=>aP hr.Aa λy B=>aT y λo1 N _=>?_;clear y;refine aT B λo2 P _=>?_;clear B;exact⟨λe=>by rw [←e] at N;exact absurd (QP N)<|Nat.lt_irrefl _,λe=>by rw [←e] at P;exact absurd (QP P)<|Nat.lt_irrefl _⟩
 have f:∀(ob:Obj) b o,s.heap.get? b=some o->(s.heap.push ob).get? b=some o:=λob b o e=>Qu _ e
 cases v with
 |G l=>exact VR.Ad r λt=>KBw.pyIter_bytes<|d _ s.toks (f _) (.Aa<|cz _ (QI _ rfl) rfl rfl)<|im.of (cz _ (QI _ rfl) rfl rfl) dd dd c
 |F l=>
  refine VR.Ag r λa vs R hr=>?_;haveI D:=R.push {cls:=.type "tuple_iterator",data:=.fields #[.ref a,.int 0 0]};exact wpAny_pyIter_tuple R<|d _ s.toks (f _) (.Ag (cz _ (QI _ rfl) rfl rfl) D<|bN.Aq (λa o e _ _=>f _ a o e) hr)<|im.of (cz _ (QI _ rfl) rfl rfl) dd dd c
 |I n=>
  cases r with
  |Av W=>
  have hg: -1000000<n/\n<1000000:=Classical.byContradiction λq=>g (by show be _ _ H=_;rw [be,Qe q];rfl);refine wpAny_pyIter_range W (small_one dd dd (by lia)<|by lia)<|d _ s.toks (f _) (.Ah ?_<|by lia)<|im.of (cz _ (QI _ rfl) rfl rfl) dd dd c;haveI e:Builtin.Range.rangeSize 0 n 1=max n 0 - ((0:Nat):Int):=by refine af (rangeSize_one ..) ?_;split<;>lia
  exact af e<|QI _ rfl
 |B i=>
  cases C:H[i]? with
  |none=>exact absurd (by show(H[i]?.elim (λ_=>AM.Ac) _:Nat->AM (Option Mine.V)) 0 H=_;exact af C rfl) g
  |some o=>
   refine eI (r.at Z C) λp z j F=>?_;subst z;have hs:lf (.B i) H=oC (λ_=>AM.Ac) o (dict:=uB i) (list:=λ_=>lg i) (barr:=λ_=>uA i):=by show H[i]?.elim (λ_=>AM.Ac) _=_;exact af C rfl
   rw [hs] at d g;clear hs
   cases o with
   |A l=>exact aP F λ_ G=>cM G λvs n K hr=>wpAny_pyIter_list (items:=vs.toArray) (cz _ K rfl ⟨n,rfl⟩)<|d _ s.toks (f _) (.Ab j<|cz _ (QI _ rfl) rfl rfl)<|im.of (cz _ (QI _ rfl) rfl rfl) dd dd c
   |D l=>exact aP F λ_ K=>BA.AE K<|d _ s.toks (f _) (.Ac j<|cz _ (QI _ rfl) rfl rfl)<|im.of (cz _ (QI _ rfl) rfl rfl) dd dd c
   |B es ep=>
    refine aP F λ_ M=>dN M λkvs ek dk he rk=>?_
    cases ep with
    |none=>
     refine absurd ?_ g;show AM.Aa (Mine.bX i) _ H=_;unfold AM.Aa Mine.bX;exact af C (acN (p:=es.length=es.length/\(none:Option Nat)=none/\(none:Option Nat).isSome=true) λq=>by injection q.2.2)
    |some e0=>
     haveI:=he e0 rfl;subst this;exact wpAny_pyIter_dict (Z.Ad x<|bw j) dk<|d _ s.toks (f _) (.Ad j<|cz _ (QI _ rfl) rfl<|by exact af rk.Aa rfl)<|im.of (cz _ (QI _ rfl) rfl rfl) dd dd c
   |C _ _=>exact absurd rfl g
 |_=>exact absurd rfl g
end
end
section
section
variable {U:Program} {w:World} {J:Nat->Value} {Y:Str->Option Addr} {hz:B0} {h h' hr:Heap} {ρ ρ':List (Addr×Addr)} {H H':Hp} {L I:Addr} {m m' mg mb:Str->Option Value} {A:Around}
 {α β γ δ:Type} {s:Shared} {R:(Str->Option Value)->List (Addr×Addr)->Heap->α->β->Prop} {E E':Value->Shared->Prop} {K:Frag} {sc:Scope} {env:Env} {c:CF} {k x:Str} {e:Addr}
def XN(J:Nat->Value)(Y:Str->Option Addr)(hz:B0)(L:Addr):Heap->Heap->Addr->Str->Str->Prop:=λhr h' e k x=>XD J Y (L::hz.Aa) hr h' e k x λst=>st=some (rawInt L)
theorem zY(F:qD A env hz L)(a:r=.Ac k x H1)(d:eG U w J Y hz L (XN J Y hz L) ρ s R r Q E)(Z:FS U w J Y hz L m' ρ' H1 hr)(M:Mv L ρ s.heap ρ' hr)(f:∀p∈ρ',e≠p.1/\e≠p.2)(g:s.heap.get? e=none)
 (y:mS J Y hz L hr h' e k x):dz (model U w) A (do noteFrame (.ref e) env;theTreesLotGoes (.ref e)) (λ_ b=>E (.ref e) b) E' {s with heap:=h',toks:=tk}:=by
 subst a;refine aL<|XD.Af (s:={s with heap:=h',toks:=tk}) F Z y λi j=>?_;exact jt<|wpAny_theTreesLotGoes<|d m' ρ' hr i tk e Z M f g j
theorem zZ:A.mark none=A:=by cases A;rfl
theorem abn(F:qD A env hz L){R:(Str->Option Value)->List (Addr×Addr)->Heap->Flow->Fl×Lc->Prop}
 (q:∀(Q:Flow->Shared->Prop) (E:Value->Shared->Prop),eG U w J Y hz L (XN J Y hz L) ρ s R r Q E->gE (model U w) A t (λr o=>match r with| .ok f=>Q f o| .error e=>E e o) s1)(Q:Flow->Shared->Prop)(E:Value->Shared->Prop)
 (j:eG U w J Y hz L (mS J Y hz L) ρ s R r Q E):dz (model U w) A (runOwn t env) Q E s1:=by
 refine dQ<|abm ?_;refine af zZ<|q _ _ ?_
 cases r with
 |ok b H1=>exact j
 |Ab=>exact j
 |Ac k x H1=>
  intro m' ρ' hr h' tk e Z M u v y;refine y.Ac _ λC ox d es n vs st hC z p B l hd D i G N a P=>?_;subst P;refine ahh a λT oT ts W a0 a1 hT a2 h3=>?_;clear a;refine aL<|wpAny_field z i W ?_;refine lT (by simp)<|jt<|XD.Aa (s:={s with heap:=h',toks:=tk}) Z (y.Ab λst g=>by refine af g ?_;simp) env.frame λh2 y2=>?_;refine j m' ρ' hr h2 tk e Z M u v<|y2.Ab λst g=>?_;rw [F.Aa] at g;exact .inr<|.inr g
theorem afO(F:qD A env hz L){R:(Str->Option Value)->List (Addr×Addr)->Heap->Flow->Fl×Lc->Prop}
 (b:∀(Q:Flow->Shared->Prop) (E:Value->Shared->Prop),eG U w J Y hz L (XN J Y hz L) ρ s R r Q E->gE (model U w) A d (λr a=>match r with| .ok f=>Q f a| .error e=>E e a) s):
 aF U w J Y hz L A (mS J Y hz L) ρ s R (runOwn d env) r:=λQ E g=>abn F b Q E g
theorem wG:A.under (.whileLoop t b o env)=A:=Around.under_of_weight rfl
theorem aaa:A.under (.forLoop t a b o env)=A:=Around.under_of_weight rfl
theorem uM:A.under (.block b env)=A:=Around.under_of_weight rfl
def ain(U:Program)(w:World)(A:Around)(env:Env)(E:Value->Shared->Prop):Value->Shared->Prop:=λe b=>dz (model U w) A (do noteFrame e env;theTreesLotGoes e) (λ_ a=>E e a) E b
theorem acP(F:qD A env hz L)(Z:FS U w J Y hz L m ρ H h)(j:Mv L ρ₀ s₀.heap ρ h)
 (g:aF U w J Y hz L A (mS J Y hz L) ρ {s₀ with heap:=h,toks:=tk} R t r)(l:eG U w J Y hz L (XN J Y hz L) ρ₀ s₀ (SR J sc) (r.Aa n) Q E)
 (k:∀b H1 m' ρ' h' tk' a,FS U w J Y hz L m' ρ' H1 h'->Mv L ρ h ρ' h'->Mv L ρ₀ s₀.heap ρ' h'->R m' ρ' h' a b->eG U w J Y hz L (XN J Y hz L) ρ₀ s₀ (SR J sc) (n b H1) Q E->dz (model U w) A (f a) o (ain U w A env E) {s₀ with heap:=h',toks:=tk'}):
 dz (model U w) A (t>>= f) o (ain U w A env E) {s₀ with heap:=h,toks:=tk}:=by
 refine aC<|g _ _ ?_;have d:=eG.Aa (tk:=tk) Z j l
 cases r with
 |ok b H1=>exact λm' ρ' h' tk' a i M p=>k b H1 m' ρ' h' tk' a i M (j.Aa Z M) p l
 |Ac k x H1=>exact λm' ρ' hr h' tk' e i M q u y=>zY (s:={s₀ with heap:=h,toks:=tk}) F rfl d i M q u y
 |Ab=>exact d
theorem wH(F:qD A env hz L)(G:Te U w J Y hz L A (mS J Y hz L) sc env c (isTrue t env<|eval t env) N)(P:Sts U w J Y hz L A (mS J Y hz L) sc env c (execs b env) W):
 ∀(n:Nat) (s:Shared) ρ H m l,FS U w J Y hz L m ρ H s.heap->LR J sc m l ρ s.heap->∀Q E,eG U w J Y hz L (XN J Y hz L) ρ s (SR J sc) (iq (bj c N) (au c W) n l H) Q E->
  gE (model U w) A (.whileLoop t b [] env) (λr D=>match r with| .ok f=>Q f D| .error e=>E e D) s:=by
 intro n
 induction n with
 |zero=>intro s ρ H m l Z p Q E d;exact d.elim
 |succ n ih=>
  intro s ρ H m l Z p Q E d;refine bW rfl<|af wG ?_;show dz _ A ((whileTurn t b [] env).onRaise (λx=>do noteFrame x env;theTreesLotGoes x)) _ _ s;refine dQ<|af (show whileTurn t b [] env=(isTrue t env (eval t env)>>= λr=>if r=true then(execs b env>>= λf=>match f with| .next| .cont=>again (.whileLoop t b [] env)| .brk=>pure (.done .next)| .ret v=>pure<|.done<|.ret v) else(execs [] env>>= λf=>pure<|.done f)) from rfl)<|acP (tk:=s.toks) F Z .Ae (G s ρ H m l Z p).toM d λr H1 m' ρ' h' tk a y M M0 ra d=>?_;obtain⟨rfl,rfl⟩:=ra
  cases a with
  |false=>exact aC<|aO<|aO<|d _ ρ' h' tk .next y M ⟨.Aa,p.Aa Z.st Z.ns M⟩
  |true=>
   refine af (Qh rfl)<|acP F y M (P {s with heap:=h',toks:=tk} ρ' H1 m' l y (p.Aa Z.st Z.ns M)) d λq H2 z g B i fl u _ C j d=>?_;obtain⟨f,l2⟩:=q;obtain⟨j,o⟩:=j
   cases j with
   |Aa=>exact aO ⟨rfl,ih {s with heap:=B,toks:=i} g H2 z l2 u o Q E (eG.Aa u C d)⟩
   |Ac=>exact aO<|d z g B i .next u C ⟨.Aa,o⟩
   |Ab r=>exact aO<|d z g B i _ u C ⟨.Ab r,o⟩
theorem acQ(F:qD A env hz L)(a:Te U w J Y hz L A (mS J Y hz L) sc env c (isTrue t env<|eval t env) d)(f:Sts U w J Y hz L A (mS J Y hz L) sc env c (execs b env) g):
 St U w J Y hz L A (mS J Y hz L) sc env c (exec (.While t b [] pos) env) (.H d g):=by
 intro s ρ H m l Z i;haveI q:exec (.While t b [] pos) env=(standAt pos>>= λ_=>runOwn (.whileLoop t b [] env) env):=rfl;exact af q<|aF.Aa<|afO F λQ E j=>wH F a f 100 s ρ H m l Z i Q E j
theorem aab{e:Expr}(h:cE n sc a e=some y)(v:Value):foldedSetIterable e env v=pure v:=by
 have:=oD h
 cases e<;>first|rfl|exact absurd rfl<|this _ _ _
theorem vj.Aj{k:Nat}(g:vj J ρ h I k src):∃o vs n,h.get? I=some o/\o.cls=.type n/\o.data=.fields vs/\["enumerate","zip","dict_itemiterator","dict_reverseitemiterator","odict_iterator","itertools.zip_longest","itertools.pairwise"].contains n=false:=by
 cases g with
 |Ag f _ _=>refine eI f λo a b d=>?_;clear f;exact vh o _ _ a b d dd
 |Aa f=>refine eI f λo a b d=>?_;clear f;exact vh o _ _ a b d dd
 |Ah f _=>exact vh _ _ _ f rfl rfl dd
 |Ab _ f=>refine eI f λo a b d=>?_;clear f;exact vh o _ _ a b d dd
 |Ac _ f=>refine eI f λo a b d=>?_;clear f;exact vh o _ _ a b d dd
 |Ad _ f=>refine eI f λo a b d=>?_;clear f;exact vh o _ _ a b d dd
theorem acR{k:Nat}(b:vj J ρ s.heap I k src)(h:Q () s):wpAny (model U w) A (letOwnedTupleGo t (.ref I) u) Q E s:=by
 have g:∀a p,wpAny (model U w) A (letOwnedTupleGo (.List a p) (.ref I) u) Q E s:=λa p=>by
  cases u with
  |ref _=>
   refine ahg b.Aj λo vs n d f i j=>Qc<|wpAny_load d ?_;exact af f<|af i<|wpAny_ite<|af (j ..)<|af (Bool.false_and ..)<|af (Qe dd ..)<|Qp h
  |_=>exact Qp h
 cases t with
 |Tuple a k p=>exact g a p
 |List a p=>exact g a p
 |_=>exact Qp h
theorem acS(hh:A.handled=none)(z:(hz.get? sysModules).isSome=true)(F:qD A env hz L)(hI:s₀.heap.get? I=none)(B:hz.get? I=none)
 (ht:At U w J Y hz L A (mS J Y hz L) sc env c (assign t env) W)(hb:Sts U w J Y hz L A (mS J Y hz L) sc env c (execs b env) bx):
 ∀(n k:Nat) (h:Heap) (tk:Nat) ρ H m l,FS U w J Y hz L m ρ H h->LR J sc m l ρ h->vj J ρ h I k src->im ρ h I->Mv L ρ₀ s₀.heap ρ h->∀Q E,eG U w J Y hz L (XN J Y hz L) ρ₀ s₀ (SR J sc) (jK c W src (au c bx) n k l H) Q E->
  gE (model U w) A (.forLoop t (.ref I) b [] env) (λr s'=>match r with| .ok f=>Q f s'| .error e=>E e s') {s₀ with heap:=h,toks:=tk}:=by
 intro n
 induction n with
 |zero=>intro k h tk ρ H m l Z lr G x M Q E a;exact a.elim
 |succ n ih=>
  intro k h tk ρ H m l Z lr G x M Q E a;refine bW rfl<|af aaa ?_;show dz _ A ((forTurn t (.ref I) b [] env).onRaise (λx=>do noteFrame x env;theTreesLotGoes x)) _ _ _;refine dQ (af (show forTurn t (.ref I) b [] env=(standAt t.pos>>= λ_=>((pyNext<|.ref I).onRaise<|λ_=>standAt {t.pos with line:=0})>>= λo=>match o with
   |none=>again<|.block [] env
   |some v=>letOwnedTupleGo t (.ref I) v>>= λ_=>assign t env v>>= λ_=>execs b env>>= λf=>match f with| .next| .cont=>again (.forLoop t (.ref I) b [] env)| .brk=>pure (.done .next)| .ret v=>pure<|.done<|.ret v) from rfl) ?_)
  refine aC<|cg<|aC<|dQ ?_;haveI a:eG U w J Y hz L (XN J Y hz L) ρ₀ s₀ (SR J sc) ((src k H).Aa λx=>x.elim (AM.Ab (.Aa,l)) λv=>AM.Aa (jc c W v l) λl'=>AM.Aa (au c bx l') λr=>flC r.1 (jK c W src (au c bx) n (k+1) r.2) (AM.Ab (.Aa,r.2)) λv=>AM.Ab (.Ab v,r.2)) Q E:=a;rcases aim G (H:=H) with a2|⟨o,ho⟩
  ·rw [a2] at a;exact a.elim
  ·rw [ho] at a
   cases o with
   |none=>
    refine jt (G.Af (A:=A) (s:={s₀ with heap:=h,toks:=tk}) hh Z ho λN d=>?_).2;haveI y:=Z.As x B d;haveI M1:=M.Ag hI d;refine aO ⟨rfl,bW rfl ?_⟩;refine af uM ?_;show dz _ A (do return Fin.done (←(execs [] env).onRaise (λx=>do noteFrame x env;theTreesLotGoes x))) _ _ _;exact aC<|dQ<|aO<|aO<|a m ρ N tk .next y M1 ⟨.Aa,lr.Ab<|x.Aa d⟩
   |some v=>
    refine jt (G.Ae (A:=A) (s:={s₀ with heap:=h,toks:=tk}) z Z x ho λu N C d D x1 r1=>?_).2;have y:=Z.As x B d;haveI M1:=M.Ag hI d;refine aL<|acR (s:={s₀ with heap:=N,toks:=C}) D ?_;refine acP F y M1 (ht {s₀ with heap:=N,toks:=C} ρ H m l u v y (lr.Ab<|x.Aa d) r1) a λl2 H2 m2 a5 h2 a6 _ P N2 M2 a7 a=>acP F P M2 (hb {s₀ with heap:=h2,toks:=a6} a5 H2 m2 l2 P a7) a λq H3 m3 g h3 i fl Z3 N3 M3 j a=>?_;obtain⟨f,l3⟩:=q;obtain⟨j,p⟩:=j;haveI x2:=x1.Ab y N2
    cases j with
    |Aa=>exact aO ⟨rfl,ih (k+1) h3 i g H3 m3 l3 Z3 p ((D.Ai x1 y N2).Ai x2 P N3) (x2.Ab P N3) M3 Q E a⟩
    |Ac=>exact aO<|a m3 g h3 i .next Z3 M3 ⟨.Aa,p⟩
    |Ab r=>exact aO<|a m3 g h3 i _ Z3 M3 ⟨.Ab r,p⟩
end
end
section
section
variable {U:Program} {w:World} {J:Nat->Value} {Y:Str->Option Addr} {hz:B0} {h h' hr:Heap} {ρ ρ':List (Addr×Addr)} {H H':Hp} {L I:Addr} {m m' mg mb:Str->Option Value} {A:Around} {N:Heap->Heap->Addr->Str->Str->Prop}
 {α β γ δ:Type} {s:Shared} {R:(Str->Option Value)->List (Addr×Addr)->Heap->α->β->Prop} {E E':Value->Shared->Prop} {K:Frag} {sc:Scope} {env:Env} {c:CF} {k x:Str} {e:Addr}
theorem wI(g:aF U w J Y hz L A N ρ s R t (f H)):aF U w J Y hz L A N ρ s R t (zC f H):=by
 intro Q E a;refine g Q E ?_;unfold zC at a
 cases d:f H with
 |ok b H1=>rw [d] at a;exact a
 |Ac k x H1=>rw [d] at a;exact a.elim
 |Ab=>rw [d] at a;exact a
theorem acT{step:Lc->AM (Fl×Lc)}{n k:Nat}(q:src k H=.Ab):jK c t src step (n+1) k l H=.Ab:=by
 show((src k H).Aa _)=_;exact af q rfl
theorem aio(hh:A.handled=none)(a:(hz.get? sysModules).isSome=true)(F:qD A env hz L){b:List Stmt}{pos:Pos}(hi:cE n sc aA d=some G)
 (ev:Ev U w J Y hz L A (mS J Y hz L) sc env c (eval d env) G)(ht:At U w J Y hz L A (mS J Y hz L) sc env c (assign t env) j)(hb:Sts U w J Y hz L A (mS J Y hz L) sc env c (execs b env) o):
 St U w J Y hz L A (mS J Y hz L) sc env c (exec (.For t d b [] pos) env) (.E j G o):=by
 intro s ρ H m l Z lr;haveI q:exec (.For t d b [] pos) env=(standAt pos>>= λ_=>eval d env>>= λy=>foldedSetIterable d env y>>= λx=>standAt d.pos>>= λ_=>PySem.holding [x] (pyIter x)>>= λI=>runOwn (.forLoop t I b [] env) env):=rfl;refine af q<|aF.Aa<|wI ?_;refine ev.Ab (g:=λv H=>jK c j (lf v H) (au c o) 1001 0 l H) Z lr λρ' H' h' tk u v f p M r=>af (aab hi ..)<|af (pure_bind ..)<|aF.Aa λQ E z=>?_;haveI g:lf v H' 0 H'≠.Ab:=λq=>by
  rw [show jK c j (lf v H') (au c o) 1001 0 l H'=.Ab from acT (n:=1000) q] at z;exact z
 refine aL<|Zg<|acO (s:={s with heap:=h',toks:=tk}) a f r g λP i kp B x1=>?_;refine aP (f.Af kp) λZ1 W=>?_;haveI hI:=ahm.Ab h';haveI D:=f.Ag hI;refine abn (s:={s with heap:=h',toks:=tk}) (s1:={s with heap:=P,toks:=i}) F (λQ E e2=>?_) Q E z;exact acS (s₀:={s with heap:=h',toks:=tk}) (ρ₀:=ρ') hh a F hI D ht hb 1001 0 P i ρ' H' m l Z1 (p.Aa f.st f.ns W) B x1 W Q E e2
theorem jd{t u:Sem α}(e:u=t)(h:wpAny M A t Q E s):wpAny M A u Q E s:=e ▸h
theorem bG(h:Q .next s):wpAny (model U w) A (dropValue (.Tuple [] 0 p0) pos v) Q E s:=by
 haveI a:wpAny (model U w) A (pure .next) Q E s:=Qp h
 cases v with
 |ref=>exact Qc<|wpAny_standAt<|Qc<|wpAny_runValue<|codeAny_builtin entry_let_go (show wpAny _ _ (ret .none) _ _ s from Qp<|Qp h)
 |_=>exact a
theorem abo(h:Q .next s):wpAny (model U w) A (dropValue a pos v) Q E s:=by
 cases a with
 |Name=>exact Qp h
 |_=>exact jd (by kernel_rfl)<|bG (U:=U) (w:=w) (A:=A) (E:=E) (p0:=pos) (pos:=pos) (v:=v) h
theorem afP(d:gJ sc env L){e:Expr}{x:X}(f:cE n sc aA e=some x)(g:Ev U w J Y hz L A N sc env c (eval e env) x):St U w J Y hz L A N sc env c (exec (.Expr e pos) env) (.D x):=by
 intro s ρ H m l Z i;refine af (arm_exec_Expr ..) ?_;haveI j:interactive env=false:=by
  unfold interactive;exact af d.Aa<|af d.Ab rfl
 exact af j<|aF.Aa<|af (Qe (by decide) ..)<|af (abk f ..)<|af (pure_bind ..)<|af (Qe dd ..)<|g.Ab Z i λρ' H' h' tk u b o a M r=>λQ E p=>jt<|abo (s:={s with heap:=h',toks:=tk})<|p m ρ' h' tk .next o .Ae ⟨.Aa,a⟩
theorem alW(g:Te U w J Y hz L A N sc env c (isTrue t env<|eval t env) i)(j:Sts U w J Y hz L A N sc env c (execs a env) n)(o:Sts U w J Y hz L A N sc env c (execs b env) p):
 St U w J Y hz L A N sc env c (exec (.If t a b pos) env) (.C i n p):=by
 intro s ρ H m l Z d;refine af (arm_exec_If ..)<|aF.Aa<|aF.Ae (g s ρ H m l Z d).toM λr H' _ m' ρ' h' tk u f M hr=>?_;obtain⟨rfl,rfl⟩:=hr
 cases u
 ·exact o {s with heap:=h',toks:=tk} ρ' H' _ l f (d.Aa Z.st Z.ns M)
 ·exact j {s with heap:=h',toks:=tk} ρ' H' _ l f (d.Aa Z.st Z.ns M)
theorem aeN{e:Expr}{x:X}(d:Ev U w J Y hz L A N sc env c (eval e env) x):St U w J Y hz L A N sc env c (exec (.Return (some e) pos) env) (.B x):=by
 intro s ρ H m l Z f;haveI q:exec (.Return (some e) pos) env=(standAt pos>>= λ_=>eval e env>>= λv=>pure<|.ret v):=rfl;refine af q<|aF.Aa<|d.Ab Z f λρ' H' h' tk u b g a M r=>?_;exact aF.Ad (s:={s with heap:=h',toks:=tk}) g ⟨.Ab r,a⟩
theorem afQ:St U w J Y hz L A N sc env c (exec (.Return none pos) env) (.B .J):=by
 intro s ρ H m l Z a;haveI q:exec (.Return none pos) env=(standAt pos>>= λ_=>pure<|.ret .none):=rfl;exact af q<|aF.Aa<|aF.Ad Z ⟨.Ab .Ai,a⟩
theorem aip:St U w J Y hz L A N sc env c (exec (.Break pos) env) .I:=by
 intro s ρ H m l Z a;exact af (arm_exec_Break ..)<|aF.Aa<|aF.Ad Z ⟨.Ac,a⟩
theorem abp:Sts U w J Y hz L A N sc env c (execs [] env) []:=by
 intro s ρ H m l Z a;exact af (arm_execs_nil ..)<|aF.Ad Z ⟨.Aa,a⟩
theorem wJ(i:St U w J Y hz L A N sc env c (exec a env) j)(hr:Sts U w J Y hz L A N sc env c (execs r env) n):Sts U w J Y hz L A N sc env c (execs (a::r) env) (j::n):=by
 intro s ρ H m l Z o;refine af (arm_execs_cons ..)<|aF.Ae (i s ρ H m l Z o) λq H' _ m' ρ' h' tk f d M p=>?_;obtain⟨g,b⟩:=p;obtain⟨t,l'⟩:=q;dsimp only at g b ⊢
 cases g with
 |Aa=>exact hr {s with heap:=h',toks:=tk} ρ' H' m' l' d b
 |Ac=>exact aF.Ad (s:={s with heap:=h',toks:=tk}) d ⟨.Ac,b⟩
 |Ab r=>exact aF.Ad (s:={s with heap:=h',toks:=tk}) d ⟨.Ab r,b⟩
structure wK(K:Frag)(C:Addr):Prop where
 Aa:∀G:Prop,(∀nm q N bs bm sn sub ab col dd k0 k1 k2 k3 k5,K.lookup C=some (excClassObj nm q C N bs bm true sn sub ab col dd k0 k1 k2 k3 k5 "Exception.__new__")->bm.contains (.type "BaseException")=true->bm.contains (.type "Exception")=true->
  bm.contains (.type "AttributeError")=false->bm.contains (.type "NameError")=false->G)->G
 Ab:keepIn K (.ref C)=true
def aeO(K:Frag)(Y:Str->Option Addr)(mg:Str->Option Value):Prop:=∀k,gX k bF=true->∃C,Y k=some C/\mg k=some (.ref C)/\wK K C
def li(U:Program)(w:World)(J:Nat->Value)(Y:Str->Option Addr)(hz:B0)(L:Addr)(A:Around):Prop:=
 ∀k C x t (s:Shared) ρ H m,gX k bF=true->Y k=some C->FS U w J Y hz L m ρ H s.heap->∀Q E,(∀h' tk e,XD J Y (L::hz.Aa) s.heap h' e k x (λst=>st=none)->(∀p∈ρ,e≠p.1/\e≠p.2)->Q (.ref e) {s with heap:=h',toks:=tk})->
  wpAny (model U w) A (call (.ref C) [.str x t]) Q E s
theorem uN(X:K.In s.heap)(b:wK K C)(h:Q true s):wpAny (model U w) A (isSubtype (.ref C)<|.type "BaseException") Q E s:=by
 refine b.Aa _ λo q a p f r sub t i u v y z B D j l _ _ _=>?_;obtain⟨F,g,d,tk,G⟩:=s;haveI n:(Value.ref C::f).contains (.type "BaseException")=true:=by(exact af (List.contains_cons ..)<|af (l ..)<|af (Bool.or_true ..) rfl)
 exact wpAny_isSubtype_exc (X _ _ j)<|af n h
section
variable {M:Model} {ox:Obj} {vs:Array Value} {C:Addr} {Q:Value->Shared->Prop}
theorem nu(a:s.heap.get? e=some ox)(b:ox.cls=v)(d:Q v s):wpAny M A (typeOf<|.ref e) Q E s:=by
 exact Qc<|wpAny_loadPart a<|Qp (by exact af b d)
theorem abq{Q:Bool->Shared->Prop}(a:s.heap.get? e=some ox)(b:ox.data=.fields vs)(d:Q false s):wpAny M A (isType<|.ref e) Q E s:=by
 refine Qc<|wpAny_loadPart a<|Qp ?_;exact af b d
theorem afR{c:String}(X:K.In s.heap)(b:wK K C)(a:s.heap.get? e=some ox)(d:ox.data=.fields vs)(f:ox.cls=.ref C)(g:Q (.ref e) s):wpAny (model U w) A (excFromValue (.ref e) c) Q E s:=by
 refine Qc<|Qc<|abq a d<|gK dd ?_;refine Qp<|gK dd ?_;refine Qc<|Qc<|nu a f<|uN X b<|pK rfl ?_;exact Qp g
theorem wL(X:K.In s.heap)(d:wK K C)(f:s.heap.get? e=some ox)(g:ox.cls=.ref C)(i:Q (.ref e) s):wpAny (model U w) A (raisedInstance<|.ref e) Q E s:=by
 refine d.Aa _ λl q a n o p sub r j t u v y z B b _ _ _ _=>Qc<|nu f g<|Qc<|nu (X _ _ b) rfl<|pK (show((Value.type "type")==Value.type "type")=true by decide) ?_;exact Qp i
end
theorem acU(hh:A.handled=none)(D:Wd J Y K mg mb hz A)(VE:gJ sc env L)(X0:aeO K Y mg)(MX:li U w J Y hz L A){e:Expr}{x:X}(hk:gX k bF=true)(hg:zg sc k=true)(a2:(k ==("__debug__":Str))=false)(hs:∀z p,e≠.Starred z p)
 (ev:Ev U w J Y hz L A (mS J Y hz L) sc env c (eval e env) x):St U w J Y hz L A (mS J Y hz L) sc env c (exec (.Raise (some<|.Call (.Name k p) [e] [] F) none p2) env) (.F k x):=by
 intro s ρ H m l Z lr;refine eI (X0 k hk) λC hC a3 E0=>?_;haveI q:exec (.Raise (some<|.Call (.Name k p) [e] [] F) none p2) env=(standAt p2>>= λ_=>raiseStmt env (some<|eval (.Call (.Name k p) [e] [] F) env>>= λv=>standAt p2>>= λ_=>pure v) none):=rfl;refine af q<|aF.Aa λQ E j=>aC<|aC ?_;haveI q2:eval (.Call (.Name k p) [e] [] F) env=(eval (.Name k p) env>>= λu=>callWith F u [] (backTo F<|starEach [e] env) []):=rfl;refine af q2<|af (fG hs)<|af ie ?_;haveI a5:env.scope.kind=.function:=by refine af VE.Aa ?_;exact VE.Ab
 have G:s.heap.Ns env.globals mg:=by exact af VE.Ad<|D.g.keeps Z.st.Aa
 refine aL<|Name_function_global a5 (by show env.scope.names.lookup k=_;refine af VE.Aa ?_;exact mu hg) (loadGlobal_global G a3 ?_) a2;refine mY (P:=K.In) rfl (λh X=>keeps_K E0.Ab h X)<|mZ ?_;refine af qz ?_;haveI j:eG U w J Y hz L (mS J Y hz L) ρ s (SR J sc) ((ak c x l H).Aa λv=>vC AM.Ac v (str:=λx H=>.Ac k x H)) Q E:=j;refine aF.Ai (ev s ρ H m l Z lr).toM j λv H1 m' ρ' h' tk u B M hr j=>aP hr λz3 r=>?_;clear hr;subst z3
 cases v with
 |D y=>
  refine VR.Ae r λt=>aC<|bA<|aO<|aO ⟨D.X.keeps B.st.Aa,?_⟩;refine jt<|MX k C y t {s with heap:=h',toks:=tk} ρ' H1 m' hk hC B _ _ λP f e2 y2 a7=>?_;refine aC<|cg<|aO<|aC<|aO ?_;refine y2.Ac _ λC' ox d es n vs st a8 he g c4 a9 hd c5 a b0 c6 i hP=>?_;obtain rfl:=Qb<|hC.symm.trans a8;subst hP;have X2:K.In P:=D.X.keeps λb o W=>y2.kp b o (B.st.Aa b o W) λhf=>by
   rcases Qz.mp hf with rfl|hf
   ·rw [B.Ah] at W;injection W
   ·rw [(B.Ac b hf).2.1] at W;injection W
  refine aC<|bA<|jt<|afR (s:={s with heap:=P,toks:=f}) X2 E0 he a g ?_;refine aL<|abq (s:={s with heap:=P,toks:=f}) he a<|aC<|jt<|wL (s:={s with heap:=P,toks:=f}) X2 E0 he g ?_;refine aL<|Qc<|wpAny_field he a i ?_;refine af (Qe dd)<|Qp<|jt<|wpAny_raiseNew_none hh ?_;exact j _ ρ' h' P f e2 B .Ae a7 b0<|y2.Ab λ_ h=>.inl h
 |_=>exact j.elim
end
end
section
section
variable {U:Program} {w:World} {J:Nat->Value} {Y:Str->Option Addr} {hz:B0} {h h' hr:Heap} {ρ ρ':List (Addr×Addr)} {H H':Hp} {L I:Addr} {m m' mg mb:Str->Option Value} {A:Around} {N:Heap->Heap->Addr->Str->Str->Prop}
 {α β γ δ:Type} {s:Shared} {R:(Str->Option Value)->List (Addr×Addr)->Heap->α->β->Prop} {E E':Value->Shared->Prop} {K:Frag} {sc:Scope} {env:Env} {c:CF} {k x:Str} {e:Addr} {P:Option Value->Prop}
theorem FS.Al(Z:FS U w J Y hz L m ρ H hr)(a:p∈ρ):p.1 ∉ L::hz.Aa/\p.2 ∉ L::hz.Aa:=by
 refine⟨λq=>?_,λq=>?_⟩<;>rcases Qz.mp q with q|q
 ·exact(Z.nL p a).1 q
 ·exact((Z.Ac _ q).2.2.2 p a).1 rfl
 ·exact(Z.nL p a).2 q
 ·exact((Z.Ac _ q).2.2.2 p a).2 rfl
theorem FS.Aj(Z:FS U w J Y hz L m ρ H hr)(z:∀b o,hr.get? b=some o->b ∉ L::hz.Aa->h'.get? b=some o)(C:∀b o,hr.get? b=some o->b∈L::hz.Aa->∃B,h'.get? b=some {o with slots:=B}):FS U w J Y hz L m ρ H h':=by
 have st:uL hr h':=λa o d G l=>z a o d λq=>by
  rcases Qz.mp q with rfl|q
  ·refine kf Z.ns λo' es ep g j _=>?_;rw [g] at d;injection d with z14;subst z14;exact l _ _ j
  ·refine aT ((Z.Ac _ q).2.2.1) λo' g n=>ip n λes ep j=>?_;clear n;rw [g] at d;injection d with z16;subst z16;exact l _ _ j
 refine⟨⟨λb o t=>z b o (Z.st.Aa b o t) λq=>?_,Z.st.Ab,λi o p F D=>?_,Z.st.inj,Z.st.Ad⟩,?_,Z.nL,Z.Aa,λf u=>?_⟩
 ·rcases Qz.mp q with rfl|q
  ·rw [Z.Ah] at t;injection t
  ·rw [(Z.Ac _ q).2.1] at t;injection t
 ·haveI u:=Z.Al<|bw D;exact(Z.st.Ac i o p F D).Af st (λo e=>z _ o e u.1)<|λo e=>z _ o e u.2
 ·exact kf Z.ns λo es ep d l r=>bC (C L o d<|.head _) λB hs=>vg _ es ep hs l r
 ·refine gF (Z.Ac f u) λa b v c=>aT v λo d y=>?_;clear v;refine ip y λes ep l=>?_;clear y;exact bC (C f o d<|.tail _ u) λB hs=>⟨a,b,bv _ hs<|fK es ep l,c⟩
theorem XD.Ag(Z:FS U w J Y hz L m ρ H hr)(y:XD J Y (L::hz.Aa) hr h' e k x P)(M:Mv L g t ρ hr):FS U w J Y hz L m ρ H h'/\Mv L g t ρ h':=by
 refine⟨Z.Aj y.kp y.fr,λb o e n u=>?_,M.Ab⟩
 ·have a:∀o',hr.get? b=some o'->b∈L::hz.Aa->∃es ep,o'.data=.dict es ep:=λo' p q=>by
   rcases Qz.mp q with q|q
   ·exact absurd q n
   ·refine aT ((Z.Ac _ q).2.2.1) λz i r=>ip r λes ep f=>?_;clear r;rw [i] at p;haveI v:=Qb p;subst v;exact fK es ep f
  rcases M.kp b o e n u with d|⟨f,j,d⟩
  ·by_cases q:b∈L::hz.Aa
   ·exact bC (y.fr b o d q) λj hs=>.inr ⟨a o d q,j,hs⟩
   ·exact .inl<|y.kp b o d q
  ·by_cases q:b∈L::hz.Aa
   ·exact bC (y.fr b _ d q) λl hs=>.inr ⟨f,l,hs⟩
   ·exact .inr ⟨f,j,y.kp b _ d q⟩
theorem aiq:Mp ρ h (ρ++t) h:=⟨λe=>e,λe=>e,λe=>by refine af (Qj (Qg.mp e).1) ?_;exact e⟩
theorem fC.Ac(r:fC U w J Y ρ h p o):fC U w J Y (ρ++t) h p o:=r.Ad aiq (λ_ e=>e) λ_ e=>e
theorem FS.An(F:FS U w J Y hz L m ρ H h)(D:∀q∈ρ,p.1≠q.1/\p.1≠q.2/\p.2≠q.1/\p.2≠q.2)(n0:hz.get? p.1=none/\hz.get? p.2=none)(nl:p.1≠L/\p.2≠L)(nf:∀f∈hz.Aa,f≠p.1/\f≠p.2)
 (r:fC U w J Y (ρ++[p]) h p o'):FS U w J Y hz L m (ρ++[p]) (H++[o']) h:=by
 have g:∀(i:Nat) (a:Addr×Addr),(ρ++[p])[i]?=some a->(i<ρ.length/\ρ[i]?=some a)∨(i=ρ.length/\a=p):=λi a l=>by
  by_cases t:i<ρ.length
  ·rw [Qj t] at l;exact .inl ⟨t,l⟩
  ·have v:i=ρ.length:=Nat.le_antisymm (Qm<|Qr (Qg.mp l).1<|Qk Qi)<|QW t;subst v;rw [QE<|Qd _,Nat.sub_self] at l;haveI y:=Qb l;subst y;exact .inr ⟨rfl,rfl⟩
 have n:∀q∈ρ++[p],q∈ρ∨q=p:=λq d=>by
  rcases Zd.mp d with d|d
  ·exact .inl d
  ·exact .inr<|QM.mp d
 refine⟨⟨F.st.Aa,by(refine af Qi<|af Qi<|af F.st.Ab ?_);rfl,λj o q u e2=>?_,λi j a b l ej e=>?_,λq d=>?_⟩,F.ns,λq d=>?_,F.Aa,λf G=>?_⟩
 ·rcases g j q e2 with ⟨B,e3⟩|⟨rfl,rfl⟩
  ·rw [Qj<|by exact cI F.st.Ab B] at u;exact(F.st.Ac j o q u e3).Ac
  ·rw [QE<|by exact af F.st.Ab<|Qd _,F.st.Ab,Nat.sub_self] at u;haveI C:=Qb u;subst C;exact r
 ·rcases g i a l with ⟨_,M⟩|⟨t,rfl⟩<;>rcases g j b ej with ⟨_,Q⟩|⟨B,rfl⟩
  ·exact F.st.inj i j a b M Q e
  ·exfalso
   refine gF (D a<|bw M) λW Z a3 a4=>?_;rcases e with e|e|e|e
   ·exact W e.symm
   ·exact a3 e.symm
   ·exact Z e.symm
   ·exact a4 e.symm
  ·exfalso
   refine gF (D b<|bw Q) λW Z a3 a4=>?_;rcases e with e|e|e|e<;>contradiction
  ·exact af t<|af B rfl
 ·rcases n q d with d|rfl
  ·exact F.st.Ad q d
  ·exact n0
 ·rcases n q d with d|rfl
  ·exact F.nL q d
  ·exact nl
 ·refine gF (F.Ac f G) λa b z c=>?_;refine⟨a,b,z,λq d=>?_⟩;rcases n q d with d|rfl
  ·exact c q d
  ·exact nf f G
theorem XD.Ah(Z:FS U w J Y hz L m ρ H hr)(y:XD J Y (L::hz.Aa) hr h' e k x P):∃d,(∀q∈ρ,e≠q.1/\e≠q.2/\d≠q.1/\d≠q.2)/\(hz.get? e=none/\hz.get? d=none)/\(e≠L/\d≠L)/\(∀f∈hz.Aa,f≠e/\f≠d)/\hr.get? e=none/\hr.get? d=none/\
 ∀t,fC U w J Y t h' (e,d) (.C k [("why",.D x),("at",.A<|-1)]):=by
 refine y.Ac _ λC ox d es n vs st hC he p B g hd D G i j F hP=>?_;have l:∀b,(∃o,hr.get? b=some o)->e≠b/\d≠b:=λb z9=>bC z9 λo a=>⟨λq=>by rw [←q,i] at a;injection a,λq=>by rw [←q,j] at a;injection a⟩;haveI M:∀b,hr.get? b=none->hz.get? b=none:=λb hb=>Z.Ag hb;refine⟨d,λq hq=>?_,⟨M _ i,M _ j⟩,?_,λf hf=>?_,i,j,λt=>ahj C ox es n hC he p B g hd<|D _ _⟩
 ·refine dN (Z.st.at hq) λ_ _ _ _ r=>aP r.Aa λu v=>aT u λo1 Q _=>?_;clear u;refine aT v λo2 W _=>?_;clear v;exact⟨(l _ ⟨_,Q⟩).1,(l _ ⟨_,W⟩).1,(l _ ⟨_,Q⟩).2,(l _ ⟨_,W⟩).2⟩
 ·exact oq Z.ns λo _ _ a _=>l _ ⟨_,a⟩
 ·refine gF (Z.Ac f hf) λ_ _ z _=>aT z λo a _=>?_;clear z;exact⟨(l _ ⟨_,a⟩).1.symm,(l _ ⟨_,a⟩).2.symm⟩
theorem Wd.Ai(D:Wd J Y K mg mb hz A)(v:Option Value):Wd J Y K mg mb hz (A.mark v):=⟨⟨D.Ac,D.Ab,by cases v<;>exact D.Aa,D.X,D.Af,D.Ah⟩,D.g,D.b,D.Ad,D.Ag,D.Ae⟩
theorem oJ{e:Value}:A.under (.handlers e l env)=A:=Around.under_of_weight rfl
def XRF:Heap->Heap->Addr->Str->Str->Prop:=λ_ _ _ _ _=>False
theorem tG{v:Addr}(h:dz (model U w) (A.mark<|some<|.ref v) (handleWith (.ref v) env l) Q (λ_ _=>False) s):
 dz (model U w) A (runOwn (.handlers (.ref v) l env) env<|some<|.ref v) Q E s:=by
 refine dQ<|abm<|bW rfl ?_;refine af oJ ?_;show dz _ _ (do return Fin.done (←(handleWith (.ref v) env l).onRaise (λx=>do noteFrame x env;theTreesLotGoes x))) _ _ _;exact aC<|dQ<|dg h (λf s a=>aO a) λ_ _ h=>h.elim
theorem air(F:qD A env hz L)(D:Wd J Y K mg mb hz A)(B:gJ sc env L)(X0:aeO K Y mg)(hk:gX k bF=true)(hg:zg sc k=true)(b1:(k ==("__debug__":Str))=false)(hi:jr sc nm=some i)
 (hb:Sts U w J Y hz L A (mS J Y hz L) sc env c (execs b env) bx)(b3:∀A',Wd J Y K mg mb hz A'->Ev U w J Y hz L A' XRF sc env c (eval z env) yx):
 St U w J Y hz L A (mS J Y hz L) sc env c (exec (.Try b [.ExceptHandler (some<|.Name k p1) (some nm) [.Return (some z) p2] p3] [] [] p) env) (.K bx k i [.B yx]):=by
 intro s ρ H m l Z lr;refine eI (X0 k hk) λC hC b4 E0=>?_;haveI q:exec (.Try b [.ExceptHandler (some<|.Name k p1) (some nm) [.Return (some z) p2] p3] [] [] p) env=(standAt p>>= λ_=>tryStmt false (execs b env) [.ExceptHandler (some<|.Name k p1) (some nm) [.Return (some z) p2] p3] (execs [] env) [] env):=rfl;refine af q<|aF.Aa ?_;intro Q E j;haveI j:eG U w J Y hz L (mS J Y hz L) ρ s (SR J sc) (aeF k (au c bx l) (λe=>AM.Aa (au c [.B yx]<|Lc.Aa (λ_=>none) i e) λr=>flC r.1 AM.Ac AM.Ac λv=>AM.Ab (.Ab v,λ_=>none)) H) Q E:=j;delta tryStmt;refine afS (show(([]:List Stmt).isEmpty=true) from rfl)<|aC<|oK<|hb s ρ H m l Z lr _ _ ?_
 cases hx:au c bx l H with
 |Ab=>unfold aeF at j;rw [hx] at j;exact j
 |ok fl H1=>
  unfold aeF at j;rw [hx] at j;intro m' ρ' h' tk a u M ra;obtain⟨f,l2⟩:=fl;refine aP ra λhf W=>?_;clear ra
  cases hf with
  |Aa=>exact aO<|j m' ρ' h' tk _ u M ⟨.Aa,W⟩
  |Ac=>exact aO<|j m' ρ' h' tk _ u M ⟨.Ac,W⟩
  |Ab r=>exact aO<|j m' ρ' h' tk _ u M ⟨.Ab r,W⟩
 |Ac k' x H1=>
  refine afJ (P:=λr=>eG U w J Y hz L (mS J Y hz L) ρ s (SR J sc) r Q E) hx j (λh=>h) λb8 j=>?_;subst b8;intro m' ρ' hr h' tk e u M hn hf y;refine aL<|XD.Af (s:={s with heap:=h',toks:=tk}) F u y λh2 y2=>?_;refine lT Zv<|aL<|XD.Aa (s:={s with heap:=h2,toks:=tk}) u (y2.Ab λst a0=>by refine af a0 ?_;simp) none λh3 y3=>?_;refine lT Zv<|lT Zv ?_;dsimp only;refine aP (y3.Ag u M) λZ3 M3=>aC<|bA<|tG ?_
  ·have a3:env.scope.kind=.function:=by exact af B.Aa B.Ab
   have G:h3.Ns env.globals mg:=by exact af B.Ad<|D.g.keeps Z3.st.Aa
   refine aC<|cg ?_;refine aL<|Name_function_global a3 (by show env.scope.names.lookup k'=_;refine af B.Aa ?_;exact mu hg) (loadGlobal_global G b4 ?_) b1;refine aC<|cg ?_;refine E0.Aa _ λf9 q0 g bs bm sn sub ab g0 dd k0 k1 k2 k3 k5 c0 h1 _ _ _=>y3.Ac _ λC' ox d es n vs st a4 he a5 _ _ _ _ _ _ _ _ _=>?_;rw [hC] at a4;haveI c1:=Qb a4;subst c1;refine aL<|wpAny_excMatches_sub_self (D.X.keeps Z3.st.Aa _ _ c0) he a5 h1 ?_;refine aO<|af (Qh rfl)<|aC<|aO<|lT (by decide) ?_;refine aC<|bA<|tG ?_;refine aC<|cg ?_;refine aL<|XD.Aa (s:={s with heap:=h3,toks:=tk}) u (y3.Ab λst a0=>by refine af a0 ?_;simp) none λh4 y4=>?_;refine aP (y4.Ag u M) λZ4 M4=>anY (y4.Ah u) λd' c3 c4 c5 c6 fe fd c7=>?_;haveI Za:=Z4.An (p:=(e,d')) c3 c4 c5 c6<|c7 _;have Ma:Mv L ρ s.heap (ρ'++[(e,d')]) h4:=by
    refine aT M4.Ab λt c8 ht=>?_;subst c8;refine⟨M4.kp,t++[(e,d')],by exact af (Qn ..) rfl,λp hp=>?_⟩;rcases Zd.mp hp with hp|hp
    ·exact ht p hp
    ·refine af (QM.mp hp)<|⟨hf,?_⟩
     cases q:s.heap.get? d' with
     |none=>rfl
     |some o=>haveI:=M.Ad u q;rw [fd] at this;injection this
   haveI ha:(ρ'++[(e,d')])[H1.length]?=some (e,d'):=u.Ab _;haveI hv:VR J (ρ'++[(e,d')]) h4 (.ref e) (.B H1.length):=.An (p:=(e,d')) ha;dsimp only;refine aC<|iy (s:={s with heap:=h4,toks:=tk}) (N:=XRF) (l:=λ_=>none) B hi Za (λ_ _ _ _ q=>by exact ar q) hv _ _ ?_;intro m5 c9 h5 d0 _ Z5 M5 d1;haveI st:Sts U w J Y hz L (A.mark<|some<|.ref e) XRF sc env c (execs [.Return (some z) p2] env) [.B yx]:=wJ (aeN<|b3 _<|D.Ai _) abp;refine aC<|oK<|st {s with heap:=h5,toks:=d0} c9 _ m5 _ Z5 d1 _ _ ?_;haveI j:eG U w J Y hz L (mS J Y hz L) ρ s (SR J sc) ((au c [.B yx] (Lc.Aa (λ_=>none) i<|.B H1.length)<|H1++[.C k' [("why",.D x),("at",.A<|-1)]]).Aa λr=>flC r.1 AM.Ac AM.Ac λv=>AM.Ab (.Ab v,λ_=>none)) Q E:=j
   cases hy:au c [.B yx] (Lc.Aa (λ_=>none) i<|.B H1.length) (H1++[.C k' [("why",.D x),("at",.A<|-1)]]) with
   |Ab=>rw [hy] at j;exact j
   |Ac k2 x2 H2=>intro _ _ _ _ _ _ _ _ _ _ hF;exact hF.elim
   |ok d2 H2=>
    rw [hy] at j;obtain⟨f2,l2⟩:=d2;intro m6 d3 h6 i2 fa Z6 M6 a1;refine aP a1 λa1 i4=>?_
    cases a1 with
    |Aa=>exact j.elim
    |Ac=>exact j.elim
    |Ab r=>
     refine aO<|aC<|bA<|jt<|wpAny_nameGoes_keeps (m:=m6) (by show env.scope.names.lookup nm=_;refine af B.Aa ?_;exact jX hi) (by refine af B.Ac ?_;exact Z6.ns) (by refine af a3 ?_;rfl) λh7 v7 a8 a9=>?_;rw [B.Ac] at a8 a9;exact aP (Z6.Ai a8 a9) λZ7 M7=>aO<|j _ d3 h7 _ _ Z7 (((Ma.Aa Za M5).Aa Z5 M6).Aa Z6 M7) ⟨.Ab<|r.Ab Z6.st Z6.ns M7,λ_ _ _ _ q=>by injection q⟩
end
end
section
section
variable {U:Program} {w:World} {J:Nat->Value} {Y:Str->Option Addr} {hz:B0} {h h' hr:Heap} {ρ ρ':List (Addr×Addr)} {H H':Hp} {L I:Addr} {m m' mg mb:Str->Option Value} {A:Around} {N:Heap->Heap->Addr->Str->Str->Prop}
 {α β γ δ:Type} {s:Shared} {K:Frag} {sc:Scope} {env:Env} {c:CF} {k x:Str} {e:Addr}
theorem alX(a:∀e x,F e=some x->At U w J Y hz L A N sc env c (assign e env) x/\∀z p,e≠.Starred z p):∀{xs:List T},cL F es=some xs->AtL U w J Y hz L A N sc env c es xs:=by
 induction es with
 |nil=>intro xs h;haveI h:=Qb h;subst h;exact .Ac
 |cons e r i=>exact λh=>rK h λx l b d=>.Aa (a e x b).1 (a e x b).2<|i d
theorem ais(O:wu U w J Y K mg mb hz L A N c)(j:A.handled=none)(f:gJ sc env L)(a:zg sc "__debug__"=false):∀n,
 (∀e x,cT n sc aA e=some x->At U w J Y hz L A N sc env c (assign e env) x):=by
 intro n
 induction n with
 |zero=>exact λe x h=>ar h
 |succ n o=>
  haveI b:=λe x h=>(abg O f a n e x h).1;intro e x (h:cT1 sc aA n (cT n sc aA) e=some x)
  cases e with
  |Name _ _=>exact mw h λi p=>abj f p
  |Attribute _ _ _=>exact dP h λq h=>mw h λx d=>afL O.D q<|b _ _ d
  |Subscript _ _ _=>exact rK h λx y d g=>afM O.D (qA g) (b _ _ d)<|b _ _ g
  |Tuple _ _ _=>exact mw h λl r=>acM j<|alX (λe x h=>⟨o e x h,tE h⟩) r
  |_=>exact ar h
@[elab_as_elim] theorem aeP{e:Expr}{G:Expr->Prop}(h:alw e=true)(k:∀x p,G<|.Name x p):G e:=by
 cases e with
 |Name x p=>exact k x p
 |_=>exact Bool.noConfusion h
@[elab_as_elim] theorem ait{e:Expr}{G:Expr->Prop}(h:alx e=true)(k:∀x p a q,G<|.Attribute (.Name x p) a q):G e:=by
 cases e with
 |Attribute o a q=>exact aeP h λx p=>k x p a q
 |_=>exact Bool.noConfusion h
@[elab_as_elim] theorem aiu{e:Expr}{G:Expr->Prop}(h:aho e=true)(k:∀c n p,G<|.Constant c n p):G e:=by
 cases e with
 |Constant c n p=>exact k c n p
 |_=>exact Bool.noConfusion h
theorem aac(D:Wd J Y K mg mb hz A)(r:gJ sc env L){e:Expr}(hs:vK e=true)(h:cE n sc aA e=some y):Ev U w J Y hz L A N sc env c (eval e env) y:=by
 cases n with
 |zero=>exact ar h
 |succ n=>
  have f:∀{n:Nat} {a:Str} {p:Pos} {d:Str} {q:Pos} {y:X},cE n sc aA (.Attribute (.Name a p) d q)=some y->Ev U w J Y hz L A N sc env c (eval (.Attribute (.Name a p) d q) env) y:=by
   intro n a p d q y h
   cases n with
   |zero=>exact ar h
   |succ n=>
    refine dP h λi h=>mw h λu g=>?_
    cases n with
    |zero=>exact ar g
    |succ n=>exact mX D rfl i<|wn D r g
  cases e with
  |Attribute o a q=>exact aeP (G:=λo=>cE (n+1) sc aA (.Attribute o a q)=some y->Ev U w J Y hz L A N sc env c (eval (.Attribute o a q) env) y) hs (λ_ _ h=>f h) h
  |Compare a t j q=>
   refine rL h λop h=>rL (G:=λj=>(alx a&&j.all aho)=true->Ev U w J Y hz L A N sc env c (eval (.Compare a [op] j q) env) y) h (λb h hs=>?_) hs;rw [ZH] at hs;refine rK h λx y g l=>abf D (oD l) (ait (G:=λa=>cE n sc aA a=some x->Ev U w J Y hz L A N sc env c (eval a env) x) hs.1 (λ_ _ _ _ h=>f h) g)<|aiu (G:=λb=>cE n sc aA b=some y->Ev U w J Y hz L A N sc env c (eval b env) y) (by haveI:=hs.2;rw [List.all_cons,ZH] at this;exact this.1) (λv k p h=>?_) l
   cases n with
   |zero=>exact ar h
   |succ n=>exact tm h
  |_=>exact Bool.noConfusion hs
@[elab_as_elim] theorem acV{e:Expr}{y:β}{G:Expr->Prop}(h:(aeK e).bind f=some y)(k:∀a b c p,f (a,b,c)=some y->G (.Call a b c p)):G e:=by
 cases e with
 |Call a b c p=>exact k a b c p h
 |_=>exact ar h
@[elab_as_elim] theorem acW{ex:List Str}{x:Option Expr}{G:Option Expr->S->Prop}(h:aeL F sc ex x none=some y)(k:∀k p e p2 z,zg sc k=true->gX k ex=true->F e=some z->G (some<|.Call (.Name k p) [e] [] p2) (.F k z)):G x y:=
 box h λe h=>acV h λa b c p h=>rM (e:=a) h λn f h=>rL (l:=b) h λe h=>uH (l:=c) h λh=>dP h λg h=>dP h λi h=>mw h λz d=>k n f e p z g i d
@[elab_as_elim] theorem aiv{G:ExceptHandler->S->Prop}(h:anf F g sc ex b f=some y)
 (k:∀k p v e p2 d x i z,zg sc k=true->gX k ex=true->vK e=true->g b=some x->jr sc v=some i->F e=some z->G (.ExceptHandler (some<|.Name k p) (some v) [.Return (some e) p2] d) (.K x k i [.B z])):G f y:=by
 cases f with
 |ExceptHandler t r u d=>
  refine box h λt h=>rM h λn p h=>box h λv h=>rL h λst h=>?_
  cases st with
  |Return e p2=>exact box (o:=e) h λe h=>dP h λj h=>dP h λl h=>dP h λhs h=>ahn h λx i z o q a=>k n p v e p2 d x i z j l hs o q a
  |_=>exact ar h
theorem abr(a:∀e x,F e=some x->St U w J Y hz L A N sc env c (exec e env) x):∀{xs:List S},cL F es=some xs->Sts U w J Y hz L A N sc env c (execs es env) xs:=by
 induction es with
 |nil=>intro xs h;haveI h:=Qb h;subst h;exact abp
 |cons e r i=>exact λh=>rK h λx l b d=>wJ (a _ _ b)<|i d
theorem aeQ(O:wu U w J Y K mg mb hz L A (mS J Y hz L) c)(G:A.handled=none)(F:qD A env hz L)(l:gJ sc env L)(Z:aeO K Y mg)(MX:li U w J Y hz L A)(j:zg sc "__debug__"=false):∀n,
 (∀e x,cS n sc aA bF e=some x->St U w J Y hz L A (mS J Y hz L) sc env c (exec e env) x):=by
 intro n;have D:∀k,zg sc k=true->(k ==("__debug__":Str))=false:=λk B=>by
  cases q:k ==("__debug__":Str) with
  |false=>rfl
  |true=>rw [eq_of_beq q,j] at B;injection B
 induction n with
 |zero=>exact λe x h=>ar h
 |succ n i1=>
  have E:=λes xs h=>abr i1 (es:=es) (xs:=xs) h;have C:=λe x h=>(abg O l j n e x h).1;have c2:=λe x h=>(abg O l j n e x h).2;haveI c3:=ais O G l j n;intro e x (h:cS1 sc aA bF n (cS n sc aA bF) e=some x)
  cases e with
  |Assign ts e p=>
   refine rL h λt h=>bo h λx g h=>bo h λr hp h=>?_
   cases r with
   |some M=>exact mw h λis P=>aij G l g hp P<|C _ _ g
   |none=>exact mw h λtt ht=>aii l g hp (tE ht) (C _ _ g)<|c3 _ _ ht
  |AugAssign t op e p=>
   refine rM h λx p h=>dP h λho h=>?_
   cases op with
   |Add=>exact rK h λi y Q u=>aik l Q<|C _ _ u
   |_=>exact Bool.noConfusion ho
  |Expr e p=>exact mw h λx g=>afP l g<|C _ _ g
  |If t a b p=>exact ahn h λx y z g u d=>alW (c2 _ _ g) (E _ _ u)<|E _ _ d
  |While t b o p=>exact uH h λh=>rK h λx y g u=>acQ F (c2 _ _ g)<|E _ _ u
  |For t it b o p=>exact uH h λh=>ahn h λx y z g u d=>aio G O.D.Ab F u (C _ _ u) (c3 _ _ g)<|E _ _ d
  |Return o p=>
   cases o with
   |none=>injection h with h;subst h;exact afQ
   |some e=>exact mw h λx g=>aeN<|C _ _ g
  |Break p=>injection h with h;subst h;exact aip
  |Raise x c p=>
   cases c with
   |some _=>exact ar h
   |none=>exact acW h λk p1 e p2 y B R g=>acU G O.D l Z MX R B (D _ B) (tA g)<|C _ _ g
  |Try b hs o f p=>
   exact rL h λhd h=>uH h λh=>uH h λh=>aiv h λk p1 v e p2 p3 x i y B R W g Q u=>air F O.D l Z R B (D _ B) Q (E _ _ g) λA' D'=>aac D' l W u
  |_=>exact ar h
end
end
section
noncomputable abbrev kz(S:List (Str×Value))(p:Str×Value):List (Str×Value):=if(S.lookup p.1).isNone then S++[p] else S
theorem wM{l S:List (Str×Value)}(h:∀p∈l,(S.lookup p.1).isSome=true):l.foldl kz S=S:=by
 induction l with
 |nil=>rfl
 |cons p l b=>
  haveI a:=h p<|.head _;haveI:kz S p=S:=by
   unfold kz
   cases q:S.lookup p.1 with
   |none=>rw [q] at a;injection a
   |some v=>rfl
  exact af List.foldl_cons<|af this<|b λq c=>h q<|.tail _ c
theorem wN{l:List (Str×Value)}(h:l.lookup x=some v):(x,v)∈l:=by
 induction l with
 |nil=>exact ar h
 |cons p l a=>
  rw [List.lookup_cons] at h
  cases q:x ==p.1 with
  |true=>rw [q] at h;haveI b:=Qb h;exact cI b<|af (eq_of_beq q)<|.head _
  |false=>rw [q] at h;exact .tail _<|a h
theorem uO:∀{l:List (Str×Value)},x ∉ l.map (·.1)->l.lookup x=none:=λ{l} h=>by
 cases q:l.lookup x with
 |none=>rfl
 |some v=>exact absurd (List.mem_map_of_mem (f:=(·.1))<|wN q) h
theorem uP{l:List (Str×Value)}(h:x∈l.map (·.1)):(l.lookup x).isSome=true:=by
 induction l with
 |nil=>exact absurd h Zx
 |cons p l a=>
  refine af List.lookup_cons ?_
  cases q:x ==p.1 with
  |true=>rfl
  |false=>exact(Qz.mp h).elim (λe=>absurd (beq_iff_eq.mpr e)<|by refine af q ?_;decide) a
theorem aad:∀{S:List (Str×Value)},(l.map (·.1)).Nodup->(∀p∈l,p.1 ∉ S.map (·.1))->l.foldl kz S=S++l:=by
 induction l with
 |nil=>exact λ_ _=>(QF _).symm
 |cons p l c=>
  intro S a h;haveI:kz S p=S++[p]:=by unfold kz;exact af (uO<|h p<|.head _) rfl
  rw [List.foldl_cons,this,c (List.nodup_cons.mp a).2 λq b=>?_,Qn]
  ·rfl
  ·rw [ZL,Zd]
   rintro (e|e)
   ·exact h q (.tail _ b) e
   ·rw [Zu,List.map_nil,QM] at e;exact(List.nodup_cons.mp a).1 (by show p.1∈_;exact cI e<|List.mem_map_of_mem (f:=(·.1)) b)
theorem mA{a:List Str}{vs:List Value}(h:vs.length=a.length):(a.zip vs).map (·.1)=a:=
 List.map_fst_zip (Qk h.symm)
theorem acX{T:List (Str×Value)}{a:List Str}:∀{vs:List Value},vs.length=a.length->(∀n v,(n,v)∈a.zip vs->T.lookup n=some v)->a.filterMap (λn=>(T.lookup n).map (n,·))=a.zip vs:=by
 induction a with
 |nil=>exact λ_ _=>rfl
 |cons n a c=>
  intro vs h b
  cases vs with
  |nil=>injection h
  |cons v vs=>
   exact af List.zip_cons_cons<|af List.filterMap_cons<|af (b n v<|.head _)<|Qt ((n,v)::·)<|c (Nat.succ.inj h) λx u d=>b x u<|.tail _ d
theorem nx{l:List (Str×Value)}(b:(l.map (·.1)).Nodup)(h:(x,v)∈l):l.lookup x=some v:=by
 induction l with
 |nil=>exact absurd h Zx
 |cons p l c=>
  refine af List.lookup_cons ?_;rcases Qz.mp h with e|e
  ·refine cI e ?_;simp
  ·haveI a:=List.nodup_cons.mp b;exact af (Zy.mpr λq=>a.1<|by show p.1∈_;rw [←q];exact List.mem_map_of_mem (f:=(·.1)) e)<|c a.2 e
theorem afT{a:List Str}{vs:List Value}(b:a.Nodup)(h:vs.length=a.length):a.filterMap (λn=>((a.zip vs).lookup n).map (n,·))=a.zip vs:=
 acX h λn v c=>nx (by exact af (mA h) b) c
theorem aae{N:List Str}{vs ds:List Value}(b:vs.length<=N.length)(c:N.length<=vs.length+ds.length)(a:ds.length<=N.length){G:Prop}
 (k:∀d e h f i,N=d++e++h->ds=f++i->f.length=e.length->i.length=h.length->vs.length=(d++e).length->N.length - ds.length=d.length->ds.length - (N.length - vs.length)=f.length->G):G:=by
 haveI s:N.length - ds.length<=vs.length:=Nat.sub_le_iff_le_add.mpr c;have g:vs.length - (N.length - ds.length)<=ds.length:=Nat.sub_le_iff_le_add.mpr<|Qa b<|Qk (Nat.add_sub_of_le a).symm;generalize t:vs.length - (N.length - ds.length)=j at g;have l:(N.drop<|N.length - ds.length).length=ds.length:=by(exact af QK<|af (Nat.sub_sub_self a) rfl)
 have m:(ds.drop j).length=((N.drop<|N.length - ds.length).drop j).length:=by(exact af QK<|af QK<|af l rfl)
 have n:(N.take<|N.length - ds.length).length=N.length - ds.length:=by(exact af QL<|af (ZE<|Nat.sub_le _ _) rfl)
 have o:(ds.take j).length=j:=by(exact af QL<|af (ZE g) rfl)
 have p:(ds.take j).length=((N.drop<|N.length - ds.length).take j).length:=by(exact af QL<|af QL<|af l rfl)
 have q:vs.length=(N.take (N.length - ds.length)++(N.drop<|N.length - ds.length).take j).length:=by(exact af Qi<|af n<|cI p<|af o<|cI t<|af (Nat.add_sub_of_le s) rfl)
 have r:N=N.take (N.length - ds.length)++(N.drop<|N.length - ds.length).take j++(N.drop<|N.length - ds.length).drop j:=by(exact af (Qn ..)<|af (List.take_append_drop ..)<|af (List.take_append_drop ..) rfl)
 haveI u:N.length=vs.length+(ds.drop j).length:=by
  exact af q<|af m<|cI Qi<|cI r rfl
 exact k _ _ _ (ds.take j) (ds.drop j) r (List.take_append_drop _ _).symm p m q n.symm (by
  exact af (u ..)<|af (ZG ..)<|af (QK ..)<|af (Nat.sub_sub_self g ..)<|af (o ..) rfl)
theorem aiw(h:l=[]):¬(!l.isEmpty)=true:=by subst h;exact Zv
theorem mB{g:a->c->a}(d:∀x b,f x b=pure (.yield<|g b x))(l:List c):∀(b:a) {Q:a->Shared->Prop} {s:Shared},Q (l.foldl g b) s->wpAny M A (forIn l b f) Q E s:=by
 induction l with
 |nil=>intro b Q s h;exact af List.forIn_nil<|Qp h
 |cons x l r=>intro b Q s h;refine af (List.forIn_cons ..)<|af (d ..) ?_;exact Qc<|Qp<|r _ h
theorem je{s:Shared}{fd:FuncData}{vs ds:List Value}(h1:fd.params.posonlyargs=[])(h2:fd.params.kwonlyargs=[])(h3:fd.params.vararg=none)(h4:fd.params.kwarg=none)
 (hd:∀(M:Model) (A:Around) (E:Value->Shared->Prop) (Q:Option (Array Value)->Shared->Prop),Q od s->wpAny M A (seqItems? fd.defaults) Q E s)(w:(od.getD #[]).toList=ds)
 (C:(fd.params.args.map (·.arg)).Nodup)(g:vs.length<=fd.params.args.length)(y:fd.params.args.length<=vs.length+ds.length)(i:ds.length<=fd.params.args.length):
 BindsTo s fd ⟨vs,[]⟩ ((fd.params.args.map (·.arg)).zip<|vs++ds.drop (ds.length - (fd.params.args.length - vs.length))):=by
 subst w;obtain⟨F,G,f,H,j,I,J,k,m,o,K,L,N,P,R⟩:=fd;obtain⟨po,as,va,ko,kd,ka,q⟩:=f;obtain rfl:po=[]:=h1;obtain rfl:ko=[]:=h2;obtain rfl:va=none:=h3;obtain rfl:ka=none:=h4;intro M A E Q U;haveI l:(as.map (·.arg)).length=as.length:=QU ..;have a:(od.getD #[]).toList.drop ((od.getD #[]).toList.length - (as.map (·.arg)).length)=(od.getD #[]).toList:=by(refine af l<|af (Nat.sub_eq_zero_of_le i) ?_);rfl
 refine aae (N:=as.map (·.arg)) (vs:=vs) (ds:=(od.getD #[]).toList) (by refine af l ?_;exact g) (by refine af l ?_;exact y) (by refine af l ?_;exact i) λt u N3 D2 W r Y l2 Z z q1 q2=>?_;haveI hz:=mA z;have e1:∀D:List Value,(as.map (·.arg)).zip (vs++D)=(t++u).zip vs++N3.zip D:=λD=>by(exact af r<|af (List.zip_append z.symm) rfl)
 have e2:(as.map (·.arg)).zip vs=(t++u).zip vs:=by haveI:=e1 [];rw [QF,List.zip_nil_right,QF] at this;exact this
 have hk:∀n,n∈t++u->(((t++u).zip vs).lookup n).isSome=true:=λn h=>uP<|hz.symm ▸h;haveI hm:((as.map (·.arg)).take<|(as.map (·.arg)).length - ((od.getD #[]).toList.drop<|(od.getD #[]).toList.length - (as.map (·.arg)).length).length).filter (λn=>(((as.map (·.arg)).zip vs).lookup n).isNone)=[]:=by
  refine af (a ..)<|af (q1 ..)<|af (e2 ..)<|af (r ..)<|af (Qn ..)<|af (List.take_left ..)<|List.filter_eq_nil_iff.mpr λn c v=>?_;haveI:=hk n<|List.mem_append_left _ c;rw [Option.isNone_iff_eq_none.mp v] at this;injection this
 haveI hf:(((as.map (·.arg)).drop<|(as.map (·.arg)).length - ((od.getD #[]).toList.drop<|(od.getD #[]).toList.length - (as.map (·.arg)).length).length).zip<|(od.getD #[]).toList.drop<|(od.getD #[]).toList.length - (as.map (·.arg)).length).foldl kz ((as.map (·.arg)).zip vs)=(as.map (·.arg)).zip (vs++W):=by
  haveI c:=C;rw [show(FuncData.mk F G ⟨[],as,none,[],kd,none,q⟩ H j I J k m o K L N P R).params.args=as from rfl,r,List.nodup_append] at c;rw [a,q1,e2,e1,r,Qn,List.drop_left,Y,List.zip_append l2.symm,ZK,wM λp B=>hk _<|List.mem_append_right _ (List.of_mem_zip B).1,aad]
  ·exact af (mA Z) c.2.1
  ·intro p B v;rw [hz] at v;exact c.2.2 _ v _ (List.of_mem_zip B).1 rfl
 refine Qc<|QZ (a:=((as.map (·.arg)).zip vs,([]:List (Str×Value)))) rfl<|Qc<|hd _ _ _ _<|gK (λh=>absurd g<|Nat.not_le_of_lt<|l ▸Ql (Qs.mp h).1)<|gK (aiw hm)<|Qc<|mB (g:=kz) (λx b=>?_) _ _<|Qc<|QZ (a:=(_,([]:List Str))) rfl<|gK Zv<|Qp ?_
 ·obtain⟨n,d⟩:=x;show(if(List.lookup n b).isNone=true then pure (ForInStep.yield<|b++[(n,d)]) else pure (ForInStep.yield b))=pure (ForInStep.yield<|if(List.lookup n b).isNone=true then b++[(n,d)] else b)
  cases (List.lookup n b).isNone<;>rfl
 ·haveI e:(as.map (·.arg)++([]:List Str)).filterMap (λn=>(((((as.map (·.arg)).drop<|(as.map (·.arg)).length - ((od.getD #[]).toList.drop<|(od.getD #[]).toList.length - (as.map (·.arg)).length).length).zip<|(od.getD #[]).toList.drop<|(od.getD #[]).toList.length - (as.map (·.arg)).length).foldl kz<|(as.map (·.arg)).zip vs).lookup n).map (n,·))=(as.map (·.arg)).zip (vs++W):=by
   exact af (QF ..)<|af (hf ..)<|af (afT C (by rw [Qi,Z,z,←Qi,←r]) ..) rfl
  refine(Qt (λx=>Q x s) e).mpr ?_;rw [show(FuncData.mk F G ⟨[],as,none,[],kd,none,q⟩ H j I J k m o K L N P R).params.args=as from rfl,←l,q2,Y,List.drop_left] at U;exact U
end
section
def vM(sc:Scope)(x:Str):Bool:=(zS x sc.names).elim false acK
def aeR(l:List Str):Bool:=List.rec (motive:=λ_=>Bool) true (λx r a=>!(gX x r)&&a) l
def abt(d:Def):Bool:=d.Ab.kind ==.function&&(!d.Ab.isCoroutine&&(!d.Ab.isGenerator&&(d.Ab.names.all (λx=>NameKind.casesOn (motive:=λ_=>Bool) x.2 true false true true true)&&(!(zg d.Ab "__debug__")
 &&(aeR (d.Aa.args.map (·.arg))&&((d.Aa.args.map (·.arg)).all (vM d.Ab)&&(d.Aa.posonlyargs.isEmpty&&(d.Aa.kwonlyargs.isEmpty&&(d.Aa.vararg.isNone&&d.Aa.kwarg.isNone)))))))))
theorem wO:gX x l=true↔x∈l:=by
 induction l with
 |nil=>exact⟨λh=>Bool.noConfusion h,λh=>absurd h Zx⟩
 |cons y r a=>exact Bool.or_eq_true_iff.trans<|(or_congr iw a).trans Qz.symm
theorem rP(h:aeR l=true):l.Nodup:=by
 induction l with
 |nil=>exact .nil
 |cons x r b=>
  refine aP (Qs.mp h) λa d=>List.nodup_cons.mpr ⟨λq=>?_,b d⟩;rw [wO.mpr q] at a;injection a
theorem oO(h:vM sc x=true):sc.names.lookup x=some .local:=by
 unfold vM at h;rw [kl] at h
 cases a:sc.names.lookup x with
 |none=>rw [a] at h;injection h
 |some k=>rw [a] at h;cases k<;>first|rfl|injection h
structure abu(d:Def):Prop where
 Aa:d.Ab.kind=.function
 co:d.Ab.isCoroutine=false
 Ac:d.Ab.isGenerator=false
 Ab:∀x∈d.Ab.names,x.2≠.cell
 Ae:zg d.Ab "__debug__"=false
 nd:(d.Aa.args.map (·.arg)).Nodup
 Ad:∀x∈d.Aa.args.map (·.arg),d.Ab.names.lookup x=some .local
 p1:d.Aa.posonlyargs=[]
 p2:d.Aa.kwonlyargs=[]
 p3:d.Aa.vararg=none
 p4:d.Aa.kwarg=none
theorem eS{G:Prop}(h:(a&&b)=true)(k:a=true->b=true->G):G:=aP (Qs.mp h) k
theorem afU(h:(!a)=true):a=false:=Bool.not_eq_true' a ▸h
theorem wP(h:abt d=true):abu d:=
 eS h λg h=>eS h λi h=>eS h λj h=>eS h λl h=>eS h λn h=>eS h λo h=>eS h λp h=>eS h λr h=>eS h λt h=>eS h λa b=>
  ⟨eq_of_beq g,afU i,afU j,λx f q=>by haveI:=Qx.mp l x f;rw [q] at this;injection this,afU n,rP o,λx f=>oO<|Qx.mp p x f,List.isEmpty_iff.mp r,List.isEmpty_iff.mp t,Option.isNone_iff_eq_none.mp a,Option.isNone_iff_eq_none.mp b⟩
noncomputable def uQ(v:Value):Option V:=Value.casesOn (motive:=λ_=>Option V) v none none none (λ_=>none) (λi _=>some<|.A i) (λ_ _=>none) (λx _=>some<|.D x) (λb _=>some<|.G b.toList) (λ_=>none) (λ_=>none)<|λ_=>none
theorem aaf(e:uQ v=some x):VR J ρ h v x:=by
 cases v with
 |int i t=>injection e with e;subst e;exact .Ac _ _
 |str i t=>injection e with e;subst e;exact .Am _ _
 |bytes b t=>injection e with e;subst e;exact .Af b.toList t
 |_=>exact ar e
theorem qF:∀{xs:List V},vs.mapM uQ=some xs->bN J ρ h vs xs:=by
 induction vs with
 |nil=>intro xs e;haveI a:=Qb e;subst a;exact .Ad
 |cons v vs d=>
  intro xs e;rw [List.mapM_cons] at e;refine bo e λx f e=>bo e λl g e=>?_;haveI b:=Qb e;subst b;exact .Ab (aaf f)<|d g
theorem bN.at(r:bN J ρ h vs xs){i:Nat}(e:xs[i]?=some x):∃v,vs[i]?=some v/\VR J ρ h v x:=r.Al e
def Dfl(K:Frag)(a:Value)(ds:List Value):Prop:=(a=.none/\ds=[])∨∃T o n,a=.ref T/\K.lookup T=some o/\o.data=.seq ds.toArray n
structure FnD(K:Frag)(f:Addr)(d:FuncData)(b:List Stmt)(ds:List Value):Prop where
 Ad:∃oc od osl,K.lookup f=some ⟨oc,od,.func d,osl⟩
 Aa:d.body=.stmts b
 gl:d.globals=mainGlobals
 bl:d.builtins=builtinsNs
 cl:d.closure=[]
 Ab:codeIn K d.code d.qualname=true
 Ac:abu ⟨d.params,b,d.scope⟩
 Ae:Dfl K d.defaults ds
def ahq(K:Frag)(f:Addr)(fd:FD):Prop:=∀G:Prop,(∀d b ds,FnD K f d b ds->afK ⟨d.params,b,d.scope⟩=some fd->ds.mapM uQ=some fd.Ab->fd.Ab.length<=fd.np->G)->G
theorem qG:∀{k i:Nat},iu x l k=some i->∃j,i=k+j/\l[j]?=some x:=by
 induction l with
 |nil=>exact λe=>ar e
 |cons y r b=>
  intro k i e;haveI e:(if vG y x=true then some k else iu x r (k+1))=some i:=e
  by_cases q:vG y x=true
  ·rw [Qh q] at e;haveI a:=Qb e;exact bv 0 a.symm (by exact cI (iw.mp q) rfl)
  ·rw [Qe q] at e;exact aT (b e) λj d f=>bv (j+1) (d.trans<|by(exact af (Zt ..)<|af (ZI 1 ..) rfl)) f
section
variable {U:Program} {w:World} {J:Nat->Value} {Y:Str->Option Addr} {hz:B0} {h h' hr:Heap} {ρ ρ':List (Addr×Addr)} {H H':Hp} {L L' I:Addr} {m m' mg mb:Str->Option Value} {A:Around} {N:Heap->Heap->Addr->Str->Str->Prop}
 {α β γ δ:Type} {s:Shared} {K:Frag} {sc:Scope} {env:Env} {c:CF} {k x:Str} {e:Addr} {P:Option Value->Prop}
end
end
section
structure Cx(J:Nat->Value)(Y:Str->Option Addr)(K:Frag)(mg mb:Str->Option Value)(n:Nat)(hz:B0)(L:Addr)(A:Around)(env:Env):Prop where
 hh:A.handled=none
 D:Wd J Y K mg mb hz A
 F:qD A env hz L
 Ae:hz.toHeap.NoLimit
 Aa:A.depth+3*n+20<=recursionLimit
 Ab:A.units+20*n+200<cLine
section
variable {U:Program} {w:World} {J:Nat->Value} {Y:Str->Option Addr} {hz:B0} {h h' hr h1:Heap} {ρ ρ':List (Addr×Addr)} {H H':Hp} {L L' I f:Addr} {m m' mg mb:Str->Option Value} {A:Around} {N:Heap->Heap->Addr->Str->Str->Prop}
 {α β γ δ:Type} {s:Shared} {K:Frag} {sc:Scope} {env env':Env} {c:CF} {k x:Str} {e:Addr} {P:Option Value->Prop} {n:Nat}
theorem Cx.Ac(X:Cx J Y K mg mb (n+1) hz L A env)(d:env'.frame=some L')(g:env'.scope.kind≠.module):Cx J Y K mg mb n ⟨hz.toHeap,L::hz.Aa⟩ L' (A.deeper env') env':=by
 refine eI X.F.ex λa h1 i j=>?_;haveI l:=X.Aa;haveI o:=X.Ab;refine⟨X.hh,⟨⟨X.D.Ac,X.D.Ab,by refine af (Around.deeper_units ..) ?_;lia,X.D.X,X.D.Af,X.D.Ah⟩,X.D.g,X.D.b,X.D.Ad,X.D.Ag,X.D.Ae⟩,⟨cz (env::a) ?_ ?_ ?_,d⟩,X.Ae,?_,by refine af (Around.deeper_units ..) ?_;lia⟩
 ·show A.frames.map (env'::·)=_;exact af h1 rfl
 ·intro e b;rcases Qz.mp b with rfl|b
  ·exact g
  ·exact i e b
 ·exact af Zu<|af X.F.Aa<|af j rfl
 ·show A.depth+1+3*n+20<=_;lia
theorem FS.Ao(Z:FS U w J Y hz L m ρ H h)(j:∀b o,h.get? b=some o->h1.get? b=some o)(D:h1.Ns h.objs.size E):FS U w J Y ⟨hz.toHeap,L::hz.Aa⟩ h.objs.size E ρ H h1:=by
 refine aP (Z.Af j) λF W=>?_;have d:∀b o,h.get? b=some o->b≠h.objs.size:=λb o e=>QC<|QP e;refine kf Z.ns λG es ep l M g=>⟨F.st,D,λp i=>?_,?_,λf g=>?_⟩
 ·refine dN (Z.st.at i) λ_ _ _ _ r=>aP r.Aa λv y=>aT v λo1 Q _=>?_;clear v;refine aT y λo2 R _=>?_;clear y;exact⟨d _ _ Q,d _ _ R⟩
 ·exact Zq<|Qv Z.Aa<|QP l
 ·rcases Qz.mp g with rfl|g
  ·exact⟨d _ _ l,Z.Ah,bv G (j _ _ l)<|fK es ep M,λp i=>⟨(Z.nL p i).1.symm,(Z.nL p i).2.symm⟩⟩
  ·refine gF (Z.Ac f g) λa b z c=>aT z λo B C=>?_;clear z;refine ip C λq t u=>?_;clear C;exact⟨d _ _ B,b,bv o (j _ _ B)<|fK q t u,c⟩
theorem FS.Ak(Z:FS U w J Y hz L m ρ H h)(j:∀b o,h.get? b=some o->h1.get? b=some o)(C:h.get? L'=none)(l:FS U w J Y ⟨hz.toHeap,L::hz.Aa⟩ L' m' ρ' H' h')(M:Mv L' ρ h1 ρ' h'):
 FS U w J Y hz L m ρ' H' h'/\Mv L ρ h ρ' h':=by
 have r:∀b o,h.get? b=some o->b≠L':=λb o e q=>by rw [q,C] at e;injection e
 refine kf Z.ns λu es ep v y i=>gF (l.Ac L<|.head _) λF G _ z=>⟨⟨l.st,?_,λp g=>⟨(z p g).1.symm,(z p g).2.symm⟩,Z.Aa,λf i=>?_⟩,λb o e _ D=>M.kp b o (j _ _ e) (r b o e) D,?_⟩
 ·rcases M.kp L u (j _ _ v) (r _ _ v) (λp g=>⟨(Z.nL p g).1.symm,(Z.nL p g).2.symm⟩) with q|⟨_,Q,q⟩
  ·exact vg u es ep q y i
  ·exact vg _ es ep q y i
 ·exact gF (l.Ac f<|.tail _ i) λa b c d=>⟨(Z.Ac f i).1,b,c,d⟩
 ·refine aT M.Ab λt E B=>?_;subst E;refine bv t rfl<|λp g=>⟨?_,?_⟩
  ·cases q:h.get? p.1 with
   |none=>rfl
   |some o=>have:=j _ _ q;rw [(B p g).1] at this;injection this
  ·cases q:h.get? p.2 with
   |none=>rfl
   |some o=>have:=j _ _ q;rw [(B p g).2] at this;injection this
theorem XD.Ai(D:FS U w J Y ⟨hz.toHeap,L::hz.Aa⟩ L' m' ρ' H' hr)(M:Mv L' ρ h1 ρ' hr)(y:XD J Y (L'::L::hz.Aa) hr h' e k x P)(hP:∀st,P st->st=none∨st=some .none∨st=some (rawInt L)):
 ∃p,FS U w J Y ⟨hz.toHeap,L::hz.Aa⟩ L' m' ρ' H' p/\Mv L' ρ h1 ρ' p/\mS J Y hz L p h' e k x:=by
 refine kf D.ns λE es ep F hd hf=>bC (y.fr L' E F<|.head _) λj Q=>?_;haveI fz:({E with slots:=j}:Obj).isFreed=false:=by
  obtain⟨cl,d,dt,b1⟩:=E;simp only at hd;subst hd;exact Obj.isFreed_of_dict rfl
 have l:(hr.update L'<|λo=>{o with slots:=j}).get? L'=some {E with slots:=j}:=Zb _ F fz;have a:∀b,b≠L'->(hr.update L'<|λo=>{o with slots:=j}).get? b=hr.get? b:=λb g=>QS _ _<|Ne.symm g;have k1:∀b o,hr.get? b=some o->b ∉ L'::L::hz.Aa->(hr.update L'<|λo=>{o with slots:=j}).get? b=some o:=λb o e g=>(a b λq=>g<|q ▸.head _).trans e;have k2:∀b o,hr.get? b=some o->b∈L'::L::hz.Aa->∃r,(hr.update L'<|λo=>{o with slots:=j}).get? b=some {o with slots:=r}:=λb o e g=>by
  by_cases q:b=L'
  ·subst q;rw [F] at e;haveI z6:=Qb e;subst z6;exact⟨j,l⟩
  ·exact⟨o.slots,(a b q).trans e⟩
 have R:∀b,hr.get? b=none->(hr.update L'<|λo=>{o with slots:=j}).get? b=none:=λb g=>(a b λq=>by rw [q,F] at g;injection g).trans g;refine cz _ (D.Aj k1 k2) ⟨λb o e g hp=>?_,M.Ab⟩ ⟨λb o e g=>?_,λb o e g=>?_,?_⟩
 ·rcases M.kp b o e g hp with q|⟨q1,r,q⟩
  ·exact .inl<|(a b g).trans q
  ·exact .inr ⟨q1,r,(a b g).trans q⟩
 ·by_cases q:b=L'
  ·subst q;rw [l] at e;haveI z7:=Qb e;subst z7;exact Q
  ·rw [a b q] at e;exact y.kp b o e λu=>by
    rcases Qz.mp u with u|u
    ·exact q u
    ·exact g u
 ·have q:b≠L':=λq=>by
   rcases Qz.mp g with z|z
   ·exact(D.Ac L<|.head _).1<|z.symm.trans q
   ·exact(D.Ac b<|.tail _ z).1 q
  rw [a b q] at e;exact y.fr b o e<|.tail _ g
 ·intro G K;refine y.Ac _ λC ox d W n vs st hC he v Z t a0 a4 B a5 a6 i a7=>K C ox d W n vs st hC he v Z t a0 a4 B (R _ a5) (R _ a6) ?_<|hP _ a7
  cases st with
  |none=>exact i
  |some fl=>
   refine kf i λT oT ts a1 a2 a3=>?_;clear i;exact vg T oT ts a1 (R _ a2) a3
end
end
section
section
variable {U:Program} {w:World} {J:Nat->Value} {Y:Str->Option Addr} {hz:B0} {h h' hr h1:Heap} {ρ ρ':List (Addr×Addr)} {H H':Hp} {L L' I f:Addr} {m m' mg mb:Str->Option Value} {A:Around} {N:Heap->Heap->Addr->Str->Str->Prop}
 {α β γ δ:Type} {s:Shared} {K:Frag} {sc:Scope} {env env':Env} {c:CF} {k x:Str} {e:Addr} {P:Option Value->Prop} {n:Nat} {fd:FD}
theorem oP(h:afK d=some fd):(d.Aa.args.map (·.arg))=(lU d.Ab.names).take d.Aa.args.length/\cL (cS 200 d.Ab aA bF) d.Ac=some fd.Aa/\fd.np=d.Aa.args.length:=
 dP h λa h=>bo h λds _ h=>bo h λb g h=>bo h λvs _ h=>by haveI z:=Qb h;subst z;exact⟨eq_of_beq a,g,rfl⟩
theorem wQ(e:jr sc x=some i):(lU sc.names)[i]?=some x:=
 ahl e λ_ _ e=>uC e λ_ e=>aT (qG e) λj h1 a=>by(refine af (h1 ..)<|af (Nat.zero_add ..) ?_);exact a
theorem aeS{a:List α}{i:Nat}{x:α}(h1:a[i]?=some x)(d:b[i]?=some y):(x,y)∈a.zip b:=by
 refine Zp (i:=i) ?_;rw [List.getElem?_zip_eq_some];exact⟨h1,d⟩
theorem afV{b:List Value}(l:a.Nodup)(d:b.length=a.length)(o:a=(lU sc.names).take a.length)(hr:bN J ρ h b xs):LR J sc (λy=>(a.zip b).reverse.lookup y) (λj=>xs[j]?) ρ h:=by
 intro x i v p q;refine aT (hr.at q) λu g r=>bv u ?_ r;haveI h1:=wQ p;have t:i<a.length:=d ▸(Qg.mp g).1;have z:a[i]?=some x:=by(refine af o ?_;refine af (List.getElem?_take_of_lt t) ?_);exact h1
 refine nx ?_ ?_
 ·exact af List.map_reverse<|af (mA d)<|List.pairwise_reverse.mpr<|l.imp λh=>h.symm
 ·rw [List.mem_reverse];exact aeS z g
theorem gG(j:A.depth<recursionLimit)
 (C:s.heap.get? a=some o)(t:o.data=.func fdt)(u:fdt.scope.isCoroutine=false)(p:fdt.scope.isGenerator=false)(l:fdt.body=.stmts body)(q:s.heap.CodeRec fdt.code fdt.qualname)
 (h:wpAny (model U w) A.in1 (bindArgs fdt args) (λb g=>
  wpAny (model U w) A.in1 (newFunctionEnv fdt.scope fdt.globals fdt.closure b (fdt.qualname++".<locals>.") (some a) fdt.code none fdt.builtins)
   (λenv d=>d.heap.NoLimit/\gE (model U w) A (.func body env) R d) (λe v=>R (.error e) v) g) (λe v=>R (.error e) v) s):
 gE (model U w) A (.call (.ref a) args) R s:=by
 refine bW rfl ?_;show dz _ A.in1 (callAny (.ref a) args) _ _ s;refine jt<|Qc<|wpAny_load C ?_;refine kg q λc F vs G D=>gF D λB y z E=>?_;clear q;simp only [t,callFunction,u,p,l,B];rw [B] at h;refine Qc (m:=field (.ref c) 1)<|wpAny_field y z E<|Qc<|Qp ?_;exact Qc (wpAny_mono h (λb g r=>Qc (wpAny_mono r (λenv d i=>Qc (wpAny_enterFrame i.1 j
  (Qp<|And.intro rfl i.2))) λ_ _ h'=>h')) λ_ _ h'=>h')
theorem qH
 (h:dz (model U w) (A.deeper env) (execs body env) (λf b=>R (.ok<|.ret (match f with| .ret v=>v|_=>.none)) b)
  (λe b=>dz (model U w) (A.deeper env) (leaving env e) (λ_ a=>R (.error e) a) (λd a=>R (.error d) a) b) s):
 gE (model U w) A (.func body env) R s:=by
 refine bW rfl ?_;show dz _ (A.deeper env) (do point;match ←(execs body env).onRaise (leaving env) with| .ret v=>ret v|_=>ret .none) _ _ s;refine aC<|tH<|aC<|dQ<|dg h (λf b h'=>?_) λ_ _ h'=>h'
 cases f<;>exact aO h'
theorem abv(X:Cx J Y K mg mb (n+1) hz L A env)(G:ahq K f fd)(X0:aeO K Y mg)
 (R:∀a L' A' env',Cx J Y K mg mb n a L' A' env'->wu U w J Y K mg mb a L' A' (mS J Y a L') c/\li U w J Y a L' A')
 (Z:FS U w J Y hz L m ρ H s.heap)(rs:bN J ρ s.heap vs args):ai U w J Y hz L m A (mS J Y hz L) ρ s (du J) (call (.ref f) vs) (zf c fd args H):=by
 refine G _ λd b ds W l a0 a4=>?_;have g:=W.Ac;refine gx (oP l) λ(b6:d.params.args.map (·.arg)=(lU d.scope.names).take d.params.args.length) (b7:cL (cS 200 d.scope aA bF) b=some fd.Aa) (u:fd.np=d.params.args.length)=>?_;intro Q E i;unfold zf oa at i
 by_cases p:args.length<=fd.np/\fd.np<=args.length+fd.Ab.length
 case neg=>rw [Qe p] at i;exact i.elim
 rw [Qh p] at i;have XK:K.In s.heap:=X.D.X.keeps Z.st.Aa;haveI a5:s.heap.NoLimit:=X.Ae.at λo=>Z.st.Aa _ o;haveI B:A.depth<recursionLimit:=by haveI:=X.Aa;lia
 have rd:=qF (J:=J) (ρ:=ρ) (h:=s.heap) a0;have v:=rd.Aa;have z:=rs.Aa;refine kn ?_;have a1:vs.length<=d.params.args.length:=by(refine af z<|cI u ?_);exact p.1
 have a2:d.params.args.length<=vs.length+ds.length:=by(refine af z<|af v<|cI u ?_);exact p.2
 have a3:ds.length<=d.params.args.length:=by(refine af v<|cI u ?_);exact a4
 haveI hb:BindsTo s d ⟨vs,[]⟩ ((d.params.args.map (·.arg)).zip<|vs++ds.drop (ds.length - (d.params.args.length - vs.length))):=by
  rcases W.Ae with ⟨e,rfl⟩|⟨T,o,n',e,hT,c1⟩
  ·exact je (od:=none) g.p1 g.p2 g.p3 g.p4 (λM A E Q hq=>by exact af e<|Qp hq) rfl g.nd a1 a2 a3
  ·exact je (od:=some ds.toArray) g.p1 g.p2 g.p3 g.p4 (λM A E Q hq=>by exact af e<|wpAny_seqItems (XK _ _ hT) c1 hq) rfl g.nd a1 a2 a3
 refine ze W.Ad λoc od d3 hK=>gG (fdt:=d) (body:=b) B (XK _ _ hK) rfl g.co g.Ac W.Aa (codeRec_of XK W.Ab)<|hb _ _ _ _ ?_;rw [show fd.Ab.drop (fd.Ab.length - (fd.np - args.length))=fd.Ab.drop (ds.length - (d.params.args.length - vs.length)) by(exact af u<|cI v<|af z rfl)] at i;haveI ra:=bN.Ah rs<|bN.Am (i:=ds.length - (d.params.args.length - vs.length)) rd;have C:(vs++ds.drop (ds.length - (d.params.args.length - vs.length))).length=(d.params.args.map (·.arg)).length:=by
  exact af (Qi ..)<|af (QK ..)<|af (QU ..)<|af (Nat.sub_sub_self (Nat.sub_le_iff_le_add'.mpr a2) ..)<|af (Nat.add_sub_of_le a1 ..) rfl
 generalize vs++ds.drop (ds.length - (d.params.args.length - vs.length))=us at ra C ⊢;generalize args++fd.Ab.drop (ds.length - (d.params.args.length - vs.length))=xs at ra i;clear hb a1 a2 a3 rd v z a0 a4 p l;have i:ms U w J Y hz L m (mS J Y hz L) ρ s (du J) ((au c fd.Aa (λj=>xs[j]?) H).Aa λr=>flC r.1 (AM.Ab .C) AM.Ac AM.Ab) Q E:=i;refine wpAny_newFunctionEnv g.Ab (λx hx=>g.Ad _ ?_) (λh1 c4 a6=>⟨a5.fresh _ a6,qH ?_⟩) g.Aa
 ·haveI:=List.mem_map_of_mem (f:=(·.1)) hx;rw [mA C] at this;exact this
 have hk:∀b o,s.heap.get? b=some o->h1.get? b=some o:=λb o e=>a6.extBut b o (QC<|QP e)<|Qu _ e;have a8:=ahm.Ab s.heap;generalize t:newEnv d.scope s.heap.objs.size d.globals d.closure (d.qualname++".<locals>.") (some f) d.code none d.builtins=env';have hE:gJ d.scope env' s.heap.objs.size:=by subst t;exact⟨rfl,g.Aa,rfl,W.gl,W.bl⟩
 haveI c5:env'.frame=some s.heap.objs.size:=by subst t;rfl
 clear t;have X':=X.Ac (L':=s.heap.objs.size) c5 (by(refine af hE.Aa<|af g.Aa ?_);nofun);refine aP (R _ _ _ _ X') λO MX=>?_;have st:=abr (aeQ O X'.hh X'.F hE X0 MX g.Ae 200) b7;haveI Z1:FS U w J Y ⟨hz.toHeap,L::hz.Aa⟩ s.heap.objs.size _ ρ H h1:=Z.Ao hk c4;haveI lr:LR J d.scope (λy=>((d.params.args.map (·.arg)).zip us).reverse.lookup y) (λj=>xs[j]?) ρ h1:=afV g.nd C (by exact af (QU ..) b6)<|ra.Ac Z.st Z.ns (Z.Af hk).2;refine st {s with heap:=h1,toks:=_} ρ H _ _ Z1 lr _ _ ?_
 cases hy:au c fd.Aa (λj=>xs[j]?) H with
 |Ab=>rw [hy] at i;exact i
 |Ac k x H1=>
  rw [hy] at i;intro m' ρ' hr h' tk e Z' M hn hf y;refine aL<|XD.Af (s:={s with heap:=h',toks:=tk}) X'.F Z' y λh2 y2=>?_;refine jt<|XD.Aa (s:={s with heap:=h2,toks:=tk}) Z' (y2.Ab λst D=>by refine af D ?_;simp) none λh3 y3=>?_;refine eI (y3.Ai Z' M λst D=>by exact af D<|.inr<|.inl rfl) λc7 Zr Mr y4=>aP (Z.Ak hk a8 Zr Mr) λZl Ml=>i ρ' c7 h3 _ e Zl Ml hn ?_ y4
  cases q:s.heap.get? e with
  |none=>rfl
  |some o=>haveI:=hk _ _ q;rw [show h1.get? e=none from hf] at this;exact ar this
 |ok q H1=>
  rw [hy] at i;obtain⟨fl,l2⟩:=q;intro m' ρ' h' tk fa Z' M F;refine aP (Z.Ak hk a8 Z' M) λZl Ml=>aP F λF _=>?_
  cases F with
  |Aa=>exact i ρ' h' tk _ Zl Ml .Ai
  |Ac=>exact i.elim
  |Ab r=>exact i ρ' h' tk _ Zl Ml r
end
end
section
section
variable {U:Program} {w:World} {J:Nat->Value} {Y:Str->Option Addr} {hz:B0} {h h' hr h1:Heap} {ρ ρ':List (Addr×Addr)} {H H':Hp} {L L' I f C:Addr} {m m' mg mb:Str->Option Value} {A:Around} {N:Heap->Heap->Addr->Str->Str->Prop}
 {α β γ δ:Type} {s:Shared} {K:Frag} {sc:Scope} {env env':Env} {c:CF} {k x:Str} {e:Addr} {P:Option Value->Prop} {n:Nat} {fd:FD}
theorem aix(a:Makes (model U w) s.heap C)(u:Looks (model U w) s.heap (typeLookup (.ref C) "__init__") (some i))
 (D:∀j,Looks (model U w) s.heap (bindSpecial i j) (i,[j]))(q:(some i != some (Value.builtin "object.__init__"))=true)
 (F:dz (model U w) (A.under<|.builtin "type.__call__" ⟨.ref C::rest,[]⟩) (call i<|.ref (s.heap.objs.size+1)::rest) (λv y=>v=.none/\Q (.ref<|s.heap.objs.size+1) y) E {s with heap:=(s.heap.push emptyDict).push (instObj C s.heap.objs.size)}):
 dz (model U w) A (call (.ref C) rest) Q E s:=by
 obtain⟨l,g,d,tk,os⟩:=s;haveI G:=a;obtain⟨⟨oc,od,M,sl,z,e1,e2,R⟩,p,base,j,W,Z,r⟩:=a;refine kn<|bW rfl ?_;show dz _ A.in1 (callAny (.ref C) _) _ _ _;refine aL<|wpAny_load z ?_;refine aL<|Z.here ?_;dsimp only;refine af (tc_bind ..)<|aC<|aO<|aC<|aO ?_;refine aO (a:=Fin.again<|.call (.builtin "type.__call__") ⟨.ref C::rest,[]⟩)<|And.intro rfl ?_;refine bW rfl ?_;show dz _ A.in1 (do checkBuiltinCall "type.__call__" ⟨.ref C::rest,[]⟩;again (.builtin "type.__call__" ⟨.ref C::rest,[]⟩)) _ _ _;refine aL<|check_slot tc_kind tc_split r (tc_args _ _ _) ?_;refine aO<|And.intro (Code.quiet_builtin _<|by decide+kernel)<|BA.Af (BA.AK<|by decide+kernel) entry_typeCall ?_;unfold Builtin.«type.__call__»;haveI hm:Looks (model U w) l (mroOf<|.ref C) M.mro:=((Looks.ld (part:=none) z).andThen .now).andThen .now;dsimp only;refine af (Qe (show ¬((Value.ref C ==Value.type "type")=true) from by simp))<|aL<|hm.here ?_;refine af (Qe<|by rw [R];decide)<|aL<|p.here ?_;refine aC<|aO ?_;refine aC<|bA<|jt<|wpAny_call<|new_K G u (.inl q) ?_;have k:∀b o,l.get? b=some o->((l.push emptyDict).push<|instObj C l.objs.size).get? b=some o:=λb o e=>Qu _<|Qu _ e;haveI hx:((l.push emptyDict).push<|instObj C l.objs.size).get? (l.objs.size+1)=some (instObj C l.objs.size):=by heap_get
 haveI B:Looks (model U w) ((l.push emptyDict).push<|instObj C l.objs.size) (typeOf<|.ref<|l.objs.size+1) (.ref C):=(Looks.ld hx).andThen .now;haveI s1:=j.keeps k;haveI i1:=u.keeps k;haveI b1:=(D<|.ref<|l.objs.size+1).keeps k;refine aL<|Qc<|B.here<|s1.here ?_;refine af (Qe<|by decide)<|aC<|bA ?_;refine aL<|Qc<|B.here<|i1.here ?_;refine bA<|aL<|b1.here ?_;refine aC<|dg F (λv y t=>?_) λ_ _ h=>h;obtain⟨rfl,t⟩:=t;refine aO ?_;dsimp only;exact af (Qe dd)<|aO t
theorem lj:(A.under<|.builtin "type.__call__" ⟨.ref C::rest,[]⟩).frames=A.frames:=rfl
theorem jf:(A.under<|.builtin "type.__call__" ⟨.ref C::rest,[]⟩).depth=A.depth+1:=by
 show A.depth+Code.weight _=_;haveI:Code.weight (.builtin "type.__call__" ⟨.ref C::rest,[]⟩)=1:=by kernel_rfl
 exact af this rfl
theorem jg:(A.under<|.builtin "type.__call__" ⟨.ref C::rest,[]⟩).units=A.units+1:=by
 show A.units+Code.cUnits _=_;haveI:Code.cUnits (.builtin "type.__call__" ⟨.ref C::rest,[]⟩)=1:=by kernel_rfl
 exact af this rfl
theorem Cx.Af(X:Cx J Y K mg mb (n+1) hz L A env):Cx J Y K mg mb n hz L (A.under<|.builtin "type.__call__" ⟨.ref C::rest,[]⟩) env:=by
 haveI a:=X.Aa;haveI b:=X.Ab;refine⟨X.hh,⟨⟨X.D.Ac,X.D.Ab,by refine af jg ?_;lia,X.D.X,X.D.Af,X.D.Ah⟩,X.D.g,X.D.b,X.D.Ad,X.D.Ag,X.D.Ae⟩,⟨?_,X.F.Aa⟩,X.Ae,by refine af jf ?_;lia,by refine af jg ?_;lia⟩;exact af lj X.F.ex
structure acY(K:Frag)(Y:Str->Option Addr)(cn:Str)(C:Addr)(fd:FD):Prop where
 kc:Y cn=some C
 Aa:makesIn K C=true
 Ab:∃fI,findIn K (.ref C) "__init__"=some (some<|.ref fI)/\typeIn K (.ref fI)=some (.type "function")/\ahq K fI fd
theorem acZ(X:Cx J Y K mg mb (n+2) hz L A env)(G:acY K Y cn C fd)(X0:aeO K Y mg)
 (j:∀d L' u env',Cx J Y K mg mb n d L' u env'->wu U w J Y K mg mb d L' u (mS J Y d L') c/\li U w J Y d L' u)
 (Z:FS U w J Y hz L m ρ H s.heap)(rs:bN J ρ s.heap vs args):ai U w J Y hz L m A (mS J Y hz L) ρ s (du J) (call (.ref C) vs)
  (AM.Aa (jp<|.C cn []) (λr=>AM.Aa (zf c fd<|r::args) λv=>vC AM.Ac v (none:=AM.Ab r)) H):=by
 obtain⟨y,hm,fI,hi,hf,GI⟩:=G;have z:K.In s.heap:=X.D.X.keeps Z.st.Aa;intro Q E g;haveI g:ms U w J Y hz L m (mS J Y hz L) ρ s (du J) ((zf c fd (.B H.length::args)<|H++[.C cn []]).Aa λv=>vC AM.Ac v (none:=AM.Ab<|.B H.length)) Q E:=g;refine aix (makes_of z hm) (looks_findIn z hi) (λl=>bind_fn z l hf) (by simp) ?_;haveI D:((s.heap.push emptyDict).push<|instObj C s.heap.objs.size).get? (s.heap.objs.size+1)=some (instObj C s.heap.objs.size):=by heap_get
 haveI F:((s.heap.push emptyDict).push<|instObj C s.heap.objs.size).get? s.heap.objs.size=some emptyDict:=by heap_get
 haveI k:∀b o,s.heap.get? b=some o->((s.heap.push emptyDict).push<|instObj C s.heap.objs.size).get? b=some o:=λb o e=>Qu _<|Qu _ e;generalize (s.heap.push emptyDict).push (instObj C s.heap.objs.size)=h1 at D F k ⊢;haveI R:∀i,s.heap.get? (s.heap.objs.size+i)=none:=λi=>by
  cases q:s.heap.get? (s.heap.objs.size+i) with
  |none=>rfl
  |some o=>exact absurd (QP q)<|QH.mpr<|Qq _ _
 refine aP (Z.Am (p:=(s.heap.objs.size+1,s.heap.objs.size)) (o':=.C cn []) k (R 1) (R 0)<|λ_=>ahj C _ ([]) 0 y D rfl rfl rfl F .Ab) λt W=>?_;haveI p:VR J (ρ++[(s.heap.objs.size+1,s.heap.objs.size)]) h1 (.ref<|s.heap.objs.size+1) (.B H.length):=.An (p:=(s.heap.objs.size+1,s.heap.objs.size))<|Z.Ab _;refine abv (s:={s with heap:=h1}) X.Af GI X0 j t (.Ab p<|rs.Ac Z.st Z.ns W) _ _ ?_;have g:=ms.Aa (tk:=s.toks) t W g
 cases B:zf c fd (.B H.length::args) (H++[.C cn []]) with
 |Ab=>rw [B] at g;exact g
 |Ac k' x H1=>rw [B] at g;exact g
 |ok v H1=>
  rw [B] at g;intro ρ' h' tk a Z' M r
  cases v with
  |C=>exact VR.Ah r ⟨rfl,g ρ' h' tk _ Z' M<|p.Ab t.st t.ns M⟩
  |_=>exact g.elim
end
end
section
structure afW(U:Program)(w:World)(J:Nat->Value)(Y:Str->Option Addr)(K:Frag)(mg mb:Str->Option Value)(funs:Nat->Option FD)(inits:Nat->Option (Nat×Str)):Prop where
 fn:∀i fd,funs i=some fd->∃f,J i=.ref f/\ahq K f fd
 Ac:∀i p fd,inits i=some p->funs p.1=some fd->∃C,J i=.ref C/\acY K Y p.2 C fd
 xc:aeO K Y mg
 Aa:∀n hz L A env,Cx J Y K mg mb n hz L A env->abi U w J Y hz L A (mS J Y hz L)
 Ab:∀n hz L A env,Cx J Y K mg mb n hz L A env->li U w J Y hz L A
section
variable {U:Program} {w:World} {J:Nat->Value} {Y:Str->Option Addr} {hz:B0} {K:Frag} {mg mb:Str->Option Value} {A:Around} {env:Env} {L:Addr} {funs:Nat->Option FD} {inits:Nat->Option (Nat×Str)} {n:Nat}
theorem Cx.Ad(X:Cx J Y K mg mb (n+1) hz L A env):Cx J Y K mg mb n hz L A env:=⟨X.hh,X.D,X.F,X.Ae,by haveI:=X.Aa;lia,by haveI:=X.Ab;lia⟩
end
end
end Mine
end
section
open PySem PySem.W PyProof.Rows PySem.Calls
open Builtin Builtin.ObjectAttr
namespace Mine
section
section
variable {M:Model} {A:Around} {E:Value->Shared->Prop} {h:Heap} {g:Array GenState} {d:Drawn} {t:Nat} {os:OsState}
variable {nm q:Str} {C N:Addr} {bs bm:List Value} {hdct:Bool} {sn:List Str} {sub:List Value} {ab:Bool} {col:Option Bool} {dd:Option Addr} {k0 k1 k2 k3 k5:Option Value} {newId:String}
theorem rQ(c:bm.contains (.type "Exception")=true)(b:h.get? C=some (excClassObj nm q C N bs bm hdct sn sub ab col dd k0 k1 k2 k3 k5 "Exception.__new__"))
 (f:Q () ⟨h,g,d,t,os⟩):wpAny M A (checkBuiltinCall "Exception.__new__" ⟨.ref C::rest,[]⟩) Q E ⟨h,g,d,t,os⟩:=by
 have F:=PySem.F.excBase_Exception;have a:(Value.ref C::bm).contains (.type "Exception")=true:=by rw [List.contains_cons,c,Bool.or_true]
 have e:=F.noStar;simp only [checkBuiltinCall,F.newKind,F.newSplit,F.newRow]
 repeat (first|refine wpAny_loadPart_at b ?_|(refine wpAny_isSubtype_exc b ?_;rw [a])|refine wpAny_staticBase_exc b ?_|refine wpAny_madeBy_exc b ?_|simp only [bne_self_eq_false,Bool.false_eq_true,if_false]|wp_step)
 exact f
end
section
variable {U:Program} {w:World} {A:Around} {R:Result->Shared->Prop} {h:Heap} {g:Array GenState} {d:Drawn} {t:Nat} {os:OsState}
variable {nm q:Str} {C N:Addr} {bs bm:List Value} {hdct:Bool} {sn:List Str} {sub:List Value} {ab:Bool} {col:Option Bool} {dd:Option Addr} {k0 k1 k2 k3 k5:Option Value}
theorem aiy(c:bm.contains (.type "Exception")=true)(a:bm.contains (.type "AttributeError")=false)(b:bm.contains (.type "NameError")=false)
 (e:h.get? C=some (excClassObj nm q C N bs bm hdct sn sub ab col dd k0 k1 k2 k3 k5 "Exception.__new__"))
 (l:R (.ok<|.ret<|.ref<|h.objs.size+1) ⟨(h.push {cls:=.type "tuple",data:=.seq rest.toArray}).push
  {cls:=.ref C,data:=.fields #[.ref h.objs.size,.none,.none,.none,.bool false,.none]},g,d,t,os⟩)(f:rest.length<=sizeLine:=by size_fits):
 codeAny (model U w) A (.builtin "Exception.__new__" ⟨.ref C::rest,[]⟩) R ⟨h,g,d,t,os⟩:=by
 have F:=PySem.F.excBase_Exception;have i:=F.ends;have j:(Value.ref C::bm).contains (.type "Exception")=true:=by rw [List.contains_cons,c,Bool.or_true]
 have a:(Value.ref C::bm).contains (.type "AttributeError")=false:=by rw [List.contains_cons,a];rfl
 have b:(Value.ref C::bm).contains (.type "NameError")=false:=by rw [List.contains_cons,b];rfl
 refine codeAny_builtinAt F.entry ?_;unfold Builtin.«BaseException.__new__»;refine PySem.wpAt_bind ?_;show PySem.wpAt _ _ _ (stack>>= _) _ _ _;refine PySem.wpAt_bind (PySem.wpAt_stack λp k=>PySem.wpAt_of_wpAny ?_)
 wp_walk
 refine PySem.wpAt_of_wpAny ?_;rw [F.owner]
 repeat (first|with_reducible refine wpAny_madeHere_exc F.canon e ?_|with_reducible refine wpAny_loadPart_at e ?_|(with_reducible refine wpAny_isSubtype_exc e ?_;first|rw [j]|rw [a]|rw [b])|wp_step)
 show R _ _;rw [Heap.size_push];exact l
theorem qq(i:bm.contains (.type "Exception")=true)
 (k:h.get? C=some (excClassObj nm q C N bs bm hdct sn sub ab col dd k0 k1 k2 k3 k5 "Exception.__new__"))(l:h.get? e=some m)(c:m.cls=.ref C)(o:Q () ⟨h,g,d,t,os⟩):
 wpAny M A (checkBuiltinCall "Exception.__init__" ⟨.ref e::rest,[]⟩) Q E ⟨h,g,d,t,os⟩:=by
 have F:=PySem.F.excBase_Exception;have j:(Value.ref C::bm).contains (.type "Exception")=true:=by rw [List.contains_cons,i,Bool.or_true]
 have f:=F.noStar;simp only [checkBuiltinCall,F.initKind,F.initSplit,F.initRow]
 repeat (first|(with_reducible refine wpAny_loadPart_at l ?_;rw [c])|with_reducible refine wpAny_loadPart_at k ?_|(with_reducible refine wpAny_isSubtype_exc k ?_;rw [j])|wp_step)
 refine wpAny_onRaise ?_;rw [show ∀(a b:String) (n:Nat),Bind.check ⟨.positional,"*","Exception",.self,[⟨"args",.varPos,false⟩]⟩ a b n (List.map (λx=>x.fst) ({pos:=Value.ref e::rest}:Args).kw)=pure () from
  λa b n=>check_star_args _ _ _ _ _ _]
 exact Qp o
theorem afX(a:bm.contains (.type "Exception")=true)
 (f:h.get? C=some (excClassObj nm q C N bs bm hdct sn sub ab col dd k0 k1 k2 k3 k5 "Exception.__new__"))(c:h.get? e=some {cls:=.ref C,data:=.fields #[.ref t0,.none,.none,.none,.bool false,.none]})
 (i:∀h',(∀b o,b≠e->h.get? b=some o->h'.get? b=some o)->(∃j,h'.get? e=some {cls:=.ref C,data:=.fields #[.ref j,.none,.none,.none,.bool false,.none]})->Q .none ⟨h',g,d,t,os⟩):
 wpAny (model U w) A (call (.builtin "Exception.__init__") [.ref e,.str x tk]) Q E ⟨h,g,d,t,os⟩:=by
 have F:=PySem.F.excBase_Exception;refine wpAny_call (codeAny_call_builtin F.init.plain F.initEntry<|qq a f c rfl ?_)
 wp_walk
 refine i _ (λb o k l=>?_) ⟨h.objs.size,?_⟩
 ·rw [QS _ _<|Ne.symm k];exact Qu _ l
 ·rw [Zb _ (Qu _ c) rfl];rfl
end
end
section
section
variable {U:Program} {w:World} {A:Around} {E:Value->Shared->Prop} {s:Shared}
theorem tI:findIn [] (.type "type") "__getattribute__"=some (some<|.builtin "type.__getattribute__"):=by kernel_rfl
theorem oQ:findCls [] (.type "Exception") (.type "type") "__init__"=some (.val<|.builtin "Exception.__init__"):=by kernel_rfl
theorem oR:typeOf (.type "Exception")=pure (.type "type"):=by kernel_rfl
theorem qI(h:Q (.builtin "Exception.__init__") {s with toks:=s.toks+1}):wpAny (model U w) A (getAttr (.type "Exception") "__init__" ex) Q E s:=by
 have X:Frag.In [] s.heap:=λ_ _ q=>by injection q
 have a:opaqueClassAbove (.type "Exception")=pure none:=by unfold opaqueClassAbove;dsimp only;rw [show Manifest.isStub "Exception"=false from by decide+kernel];rfl
 exact cls_open (K:=[]) X (Looks.of_pure a) (Looks.of_pure oR) tI (looks_hook X (r:=none)<|by rfl) (by show subIn [] _ _=_;rfl) oQ<|Qp<|handed_on (by decide+kernel) h
theorem oS:specialOf (.type "Exception") "__getattribute__"=pure (some<|.builtin "type.__getattribute__"):=by
 unfold specialOf;rw [oR];show typeLookup (.type "type") "__getattribute__"=_;exact KF.slot_tga.lookup
theorem qJ:(Manifest.canonical "type.__getattribute__"!= "object.__getattribute__")=true:=by decide+kernel
theorem rR(h:Q (.builtin "Exception.__init__",[]) {s with toks:=s.toks+1}):wpAny (model U w) A (calleeOf a o env (.type "Exception") "__init__") Q E s:=by
 unfold calleeOf
 cases a with
 |false=>
  rw [Qe dd];show wpAny _ _ (getAttr (.type "Exception") "__init__" true>>= λv=>pure (v,[])) _ _ _;exact Qc (m:=getAttr (.type "Exception") "__init__" true)<|qI<|Qp h
 |true=>
  rw [Qh rfl];unfold getMethod;rw [oS];refine Qc<|Qp ?_;dsimp only;exact pK qJ<|Qc<|qI<|Qp h
theorem oU{K:Frag}(X:K.In s.heap)(I:InstAt s.heap x z C od)(n:clsIn K C=some g)(j:g.mro.isEmpty=false)
 (k:g.mro.contains (.type "object")=true)(q:∀c,refuseLoop c "__setattr__" g.mro=pure ())(o:takerIn K C name=some none)
 (h:∀b,wpAny (model U w) A.in1 (storeInOwnDict (.ref x) (.ref C) (.str name tk) name v b)
  (λl i=>match l with| .done f=>R (.ok f) i| .again c'=>c'.quiet=true/\codeAny (model U w) A c' R i) (λe i=>R (.error e) i) s):
 codeAny (model U w) A (.call (.builtin "object.__setattr__") ⟨[.ref x,.str name tk,v],[]⟩) R s:=by
 have d:=PySem.F.store_object;have sub:Looks (model U w) s.heap (isInstance (.ref x)<|.type "object") true:=I.type.andThen<|looks_mroIn X (by unfold mroIn;rw [n,Zn,Qe<|by rw [j];decide,k]);refine codeAny_call_builtin d.slot.plain d.entry<|@check_slot (model U w) _ _ s "object.__setattr__" "object" "__setattr__" (.ref x) [.str name tk,v] [] _ d.kind d.split sub (d.args (.ref x) (.str name tk) v) ?_;refine bo o λattr r p=>?_;clear o;have t:Looks (model U w) s.heap (mroOf<|.ref C) g.mro:=(looks_clsIn X n).andThen .now;have u:Looks (model U w) s.heap (storeTaker? attr) none:=by
  cases attr with
  |none=>injection p with z1;exact .now
  |some a=>
   refine aT (Zw.mp p) λb y m=>(looks_takesIn X y).andThen ?_
   cases b
   ·exact .now
   ·injection m
 rw [osa_eq,refuse_eq];refine Qc<|Qc<|I.type.here<|Qc<|t.here ?_;rw [q];refine Qp<|Qc<|I.type.here<|Qc<|(looks_findIn X r).here<|Qc<|u.here ?_;exact h _
set_option tactic.hygienic true in
theorem wR{es:List DictEntry}
 (D:s.heap.get? e=some od)(b:(lookIn name od).isSome=true)(f:Obj.putName name (PyData.keyHash w.params name) (.str name s.toks) v od=d)(g:d.data=.dict es.toArray n)(hz:es.length<=1000)
 (j:Q (.done<|.ret .none) {s with heap:=s.heap.update e<|Obj.putName name (PyData.keyHash w.params name) (.str name s.toks) v,toks:=s.toks+1}):
 wpAny (model U w) A (storeInDict e (.str name tk) name v) Q E s:=by
 refine Qc<|Qp<|Qc ?_;unfold nsSet;refine Qc<|Qc<|wpAny_askSetting<|Qp<|Qc<|wpAny_mkText<|Qc<|wpAny_loadPart D ?_;have D':(s.heap.update e<|Obj.putName name (PyData.keyHash w.params name) (.str name s.toks) v).get? e=some d:=by
  rw [←f];exact Zb _ D (by rw [f];exact Obj.isFreed_of_dict g)
 unfold lookIn at b
 split at b
 ·rename_i a h q
  rw [q];dsimp only;have c:(!a.any (·.key.isStr name)&&a.any (·.refKey))=false:=by
   rw [←Array.any_toList,←Array.any_toList]
   split at b
   ·rename_i k i
    rw [List.any_eq_true.mpr<|bv k (List.mem_of_find?_eq_some i)<|List.find?_some i];rfl
   ·split at b
    ·injection b
    ·rename_i z;rw [Bool.not_eq_true] at z;rw [z,Bool.and_false]
  rw [aRefKeyMayBeTheName_at,c];refine wpAny_updatePart D<|Qc<|wpAny_lookBehind D' (by rw [g];exact pastItsLine_dict<|by rw [Zc,sizeLine_eq];exact aU hz) ?_;exact Qp j
 ·injection b
theorem ada{K:Frag}{d od a:Obj}{es:List DictEntry}(X:K.In s.heap)(h:s.heap.get? x=some d)(c:d.cls=.ref C)(g:d.dict=some e)
 (D:s.heap.get? e=some od)(i:clsIn K C=some j)(f:j.hasDict=true)(k:(lookIn name od).isSome=true)(l:Obj.putName name (PyData.keyHash w.params name) (.str name s.toks) v od=a)(m:a.data=.dict es.toArray n)(hz:es.length<=1000)
 (o:Q (.done<|.ret .none) {s with heap:=s.heap.update e<|Obj.putName name (PyData.keyHash w.params name) (.str name s.toks) v,toks:=s.toks+1}):
 wpAny (model U w) A (storeInOwnDict (.ref x) (.ref C) (.str name tk) name v b) Q E s:=by
 obtain⟨t,p,q,r⟩:=d;dsimp only at c g;subst c g;refine Qc<|Qp<|Qc<|Qc<|wpAny_loadPart h<|Qc<|(looks_clsIn X i).here ?_;rw [f];exact Qp (a:=some e)<|wR D k l m hz o
theorem aag{K:Frag}{vs:Array Value}(X:K.In s.heap)(a:s.heap.get? x=some {cls:=.ref C,data:=.fields vs})
 (f:clsIn K C=some g)(c:g.hasDict=true)(h:Obj.putName name (PyData.keyHash w.params name) (.str name s.toks) v emptyDict=dictOf [⟨PyData.keyHash w.params name,.str name s.toks,v⟩] 1)
 (i:Q (.done<|.ret .none) {s with heap:=((s.heap.push emptyDict).update x<|λo=>{o with dict:=some s.heap.objs.size}).update s.heap.objs.size<|Obj.putName name (PyData.keyHash w.params name) (.str name s.toks) v,toks:=s.toks+1}):
 wpAny (model U w) A (storeInOwnDict (.ref x) (.ref C) (.str name tk) name v b) Q E s:=by
 refine Qc<|Qp<|Qc ?_;unfold ownDictForStores instanceDict;refine Qc<|wpAny_loadPart a ?_;dsimp only;refine Qc<|(looks_clsIn X f).here ?_;rw [c];rw [Qe dd,Qe<|by simp [typeHasDict]];refine Qc<|wpAny_alloc ?_;have d:=Qu emptyDict a;have j:s.heap.objs.size≠x:=ZA<|QP a;refine Qc<|wpAny_update d ?_;refine Qp ?_;have e:((s.heap.push emptyDict).update x<|λo=>{o with dict:=some s.heap.objs.size}).get? s.heap.objs.size=some emptyDict:=by
  rw [QS _ _<|Ne.symm j];exact Heap.get?_push_at rfl rfl
 exact wR (s:={s with heap:=(s.heap.push emptyDict).update x (λo=>{o with dict:=some s.heap.objs.size})}) e rfl h rfl (by simp) i
end
end
section
noncomputable def wfB:List Stmt:=
 [.Expr (.Call (.Attribute (.Name "Exception" ⟨5,8,5,17⟩) "__init__" ⟨5,8,5,26⟩) [.Name "self" ⟨5,27,5,31⟩,.Name "why" ⟨5,33,5,36⟩] [] ⟨5,8,5,37⟩) ⟨5,8,5,37⟩,
  .Assign [.Attribute (.Name "self" ⟨6,8,6,12⟩) "why" ⟨6,8,6,16⟩] (.Name "why" ⟨6,19,6,22⟩) ⟨6,8,6,22⟩,
  .Assign [.Attribute (.Name "self" ⟨7,8,7,12⟩) "at" ⟨7,8,7,15⟩] (.UnaryOp .USub (.Constant (.int 1) 0 ⟨7,19,7,20⟩) ⟨7,18,7,20⟩) ⟨7,8,7,20⟩]
structure afY(K:Frag)(C:Addr):Prop where
 Aa:∀G:Prop,(∀nm q N bs bm sn sub ab col dd k0 k1 k2 k3 k5,K.lookup C=some (excClassObj nm q C N bs bm true sn sub ab col dd k0 k1 k2 k3 k5 "Exception.__new__")->bm.contains (.type "Exception")=true->bm.contains (.type "object")=true->
  bm.contains (.type "AttributeError")=false->bm.contains (.type "NameError")=false->bm.contains (.type "BaseException")=true->(∀self,refuseLoop self "__setattr__" (.ref C::bm)=pure ())->G)->G
 Ab:findIn K (.ref C) "__setattr__"=some (some<|.builtin "object.__setattr__")
 Ac:takerIn K C "why"=some none
 Ad:takerIn K C "at"=some none
def abw(C e:Addr)(x:Str)(tk:Tok)(h h':Heap):Prop:=∀G:Prop,(∀a d b c f g i n,h'.get? e=some {cls:=.ref C,dict:=some d,data:=.fields #[.ref a,.none,.none,.none,.bool false,.none]}->h.get? d=none->
 h'.get? d=some (dictOf [⟨b,.str "why" c,.str x tk⟩,⟨f,.str "at" g,.int (-1) i⟩] n)->G)->G
section
variable {U:Program} {w:World} {A:Around} {E:Value->Shared->Prop} {s:Shared} {env:Env} {K:Frag} {C e t0:Addr} {x:Str} {tk:Tok} {mg mb mL:Str->Option Value}
theorem aeT(d:env.scope.kind=.function)(f:env.scope.names.lookup ("self":Str)=some .local)(g:s.heap.Ns env.locals mL)(hs:mL "self"=some (.ref e))
 (h:wpAny (model U w) A (setAttr (.ref e) name v) (λ_ b=>Q () b) E s):wpAny (model U w) A (assign (.Attribute (.Name "self" q) name c) env v) Q E s:=by
 haveI q:assign (.Attribute (.Name "self" q) name c) env v=(PySem.holding [v] (eval (.Name "self" q) env)>>= λa=>standAt c.atName>>= λ_=>PySem.holding [v,a] (setAttr a name v)>>= λ_=>release [v,a] []):=rfl;refine af q<|Qc<|Zg<|wpAny_Name (wpAny_loadName_local d f g hs ?_) dd;refine Qc<|wpAny_standAt<|Qc<|Zg<|wpAny_mono h (λ_ b i=>?_) λ_ _ h=>h;exact wpAny_release i
theorem tJ(g:swapsWith a (some t) pos.line env=pure false)(i:swappedStores [t] a env=pure none)(j:∀z p,t≠.Starred z p)
 (h:wpAny (model U w) A (eval a env) (λv f=>wpAny (model U w) A (assign t env v) (λ_ c=>Q .next c) E f) E s):wpAny (model U w) A (exec (.Assign [t] a pos) env) Q E s:=by
 haveI q:exec (.Assign [t] a pos) env=(standAt pos>>= λ_=>swapsWith a (some t) pos.line env>>= λb=>if b=true then(evalThenUse a env λv=>assignAll v<|(assignEach [t] env).map (·.2))>>= λ_=>pure Flow.next else eval a env>>= λv=>swappedStores [t] a env>>= λk=>assignStores env v k<|(assignEach [t] env).map (·.2)):=rfl;refine af q<|Qc<|wpAny_standAt ?_;refine af (g ..)<|af (pure_bind ..)<|af (Qe dd ..)<|Qc<|wpAny_mono h (λv f l=>?_) λ_ _ h=>h;exact af (i ..)<|af (pure_bind ..)<|af (dL j ..)<|Qc<|wpAny_mono l (λ_ c d=>Qp d) λ_ _ h=>h
theorem aiz{h h':Heap}(n:h.Ns a m)(k:∀o,h.get? a=some o->h'.get? a=some o):h'.Ns a m:=by
 refine oq n λo es ep b r=>?_;clear n;exact alq o es ep (k _ b) r
theorem afZ(h:∀a b,Q (.int (-1) a) {s with toks:=b}):wpAny (model U w) A (eval (.UnaryOp .USub (.Constant (.int 1) c p) q) env) Q E s:=by
 refine af (arm_eval_UnaryOp ..) ?_;haveI q:∀(Q:Value->Shared->Prop),Q (.int 1 s.toks) {s with toks:=s.toks+1}->wpAny (model U w) A (eval (.Constant (.int 1) c p) env) Q E s:=λQ h _ _ _=>h;refine Qc<|q _<|Qc<|wpAny_standAt<|Zg<|neg_int<|h _ _
theorem aga(i:env.scope.kind=.function)(Y:env.scope.names.lookup ("self":Str)=some .local)(h2:env.scope.names.lookup ("why":Str)=some .local)(h3:env.scope.names.lookup ("Exception":Str)=some .globalImplicit)
 (H:s.heap.Ns env.locals mL)(hs:mL "self"=some (.ref e))(hw:mL "why"=some (.str x tk))(hg:s.heap.Ns env.globals mg)(Z:mg "Exception"=none)(j:s.heap.Ns env.builtins mb)(a0:mb "Exception"=some (.type "Exception"))
 (X:K.In s.heap)(G:afY K C)(he:s.heap.get? e=some {cls:=.ref C,data:=.fields #[.ref t0,.none,.none,.none,.bool false,.none]})(u:env.locals≠e)(c1:env.globals≠e)(v:K.lookup e=none)
 {Q:Flow->Shared->Prop}
 (hq:∀h' tk',(∀b o,b≠e->s.heap.get? b=some o->h'.get? b=some o)->abw C e x tk s.heap h'->Q .next {s with heap:=h',toks:=tk'}):
 wpAny (model U w) A (execs wfB env) Q E s:=by
 refine G.Aa _ λnm q N bs bm sn sub ab c3 dd k0 k1 I k3 k5 hC cE cO cA cN cB k=>?_;obtain⟨hh,g,p,t,r⟩:=s;dsimp only at H hg j X he hq;unfold wfB;refine af (arm_execs_cons ..)<|Qc<|af (arm_exec_Expr ..) ?_;haveI hi:interactive env=false:=by unfold interactive;exact af i rfl
 refine af hi<|Qc<|wpAny_standAt ?_;refine af (Qe<|by decide)<|Qc<|Qp ?_;refine af (Qe<|by decide)<|Qc<|af (arm_eval_Call ..)<|af (vI rfl ..)<|Qc<|Name_function_global i h3 (loadGlobal_builtin hg Z j a0 ?_) (by decide);refine Qc<|wpAny_standAt ?_;refine Qc<|Zg<|rR ?_;refine Qc<|QZ (a:=⟨5,8,5,37⟩) (by unfold methodCallPos;exact af (Qh<|by rfl) rfl) ?_;refine callWith_builtin rfl<|Calls.evalArgs_plain<|Calls.spliced_cons ?_;refine wpAny_Name (wpAny_loadName_local i Y H hs ?_) (by decide);refine Calls.spliced_cons<|wpAny_Name (wpAny_loadName_local i h2 H hw ?_) (by decide);refine Calls.spliced_nil<|afX cE (X _ _ hC) he λc J z9=>bC z9 λy L=>abo ?_;dsimp only;have M:K.In c:=λa o q=>J _ _ (λz=>by rw [z,v] at q;injection q)<|X a o q;have l:c.Ns env.locals mL:=aiz H λo=>J _ _ u;refine eI (cz _ (by unfold clsIn;exact af hC rfl) rfl rfl:∃m,clsIn K C=some m/\m.mro=.ref C::bm/\m.hasDict=true) λm P n B=>?_;have g1:m.mro.isEmpty=false:=by refine af n ?_;rfl
 have g2:m.mro.contains (.type "object")=true:=by(exact af (n ..)<|af (List.contains_cons ..)<|af (cO ..)<|af (Bool.or_true ..) rfl)
 have g3:∀D,refuseLoop D "__setattr__" m.mro=pure ():=by exact af n k
 haveI I1:InstAt c e {cls:=.ref C,data:=.fields #[.ref y,.none,.none,.none,.bool false,.none]} C none:=⟨L,rfl,rfl,trivial⟩;haveI a1:=QP L;have h:c.objs.size≠e:=ZA a1;refine af (arm_execs_cons ..)<|Qc (tJ rfl rfl nofun ?_);refine wpAny_Name (wpAny_loadName_local i h2 l hw ?_) (by decide);refine aeT i Y l hs<|set_plain (s:=⟨c,g,p,t+1,r⟩) M I1 G.Ab<|oU (s:=⟨c,g,p,t+2,r⟩) M I1 P g1 g2 g3 G.Ac λb=>aag (s:=⟨c,g,p,t+2,r⟩) M L P B rfl ?_;haveI e1:((c.push emptyDict).update e<|λo=>{o with dict:=some c.objs.size}).get? e=some {cls:=.ref C,dict:=some c.objs.size,data:=.fields #[.ref y,.none,.none,.none,.bool false,.none]}:=
  Zb _ (Qu _ L) rfl
 haveI d1:((c.push emptyDict).update e<|λo=>{o with dict:=some c.objs.size}).get? c.objs.size=some emptyDict:=by
  refine af (QS _ _<|Ne.symm h) ?_;exact Heap.get?_push_at rfl rfl
 generalize F:Obj.putName ("why":Str) (PyData.keyHash w.params "why") (.str "why"<|t+2) (.str x tk)=R;have e2:(((c.push emptyDict).update e<|λo=>{o with dict:=some c.objs.size}).update c.objs.size R).get? e=some {cls:=.ref C,dict:=some c.objs.size,data:=.fields #[.ref y,.none,.none,.none,.bool false,.none]}:=by
  refine af (QS _ _ h) ?_;exact e1
 have d2:(((c.push emptyDict).update e<|λo=>{o with dict:=some c.objs.size}).update c.objs.size R).get? c.objs.size=some (dictOf [⟨PyData.keyHash w.params "why",.str "why"<|t+2,.str x tk⟩] 1):=by
  refine af (Zb _ d1<|by subst F;rfl) ?_;subst F;rfl
 have I:∀b o,b≠e->c.get? b=some o->(((c.push emptyDict).update e<|λo=>{o with dict:=some c.objs.size}).update c.objs.size R).get? b=some o:=λb o j W=>by
  refine af (QS _ _<|λz=>absurd (QP W)<|by rw [←z];exact Nat.lt_irrefl _) ?_;refine af (QS _ _<|Ne.symm j) ?_;exact Qu _ W
 generalize (((c.push emptyDict).update e<|λo=>{o with dict:=some c.objs.size}).update c.objs.size R)=d at*;have XB:K.In d:=λa o q=>I _ _ (λz=>by rw [z,v] at q;injection q)<|M a o q;haveI a6:d.Ns env.locals mL:=aiz l λo=>I _ _ u;haveI I2:InstAt d e {cls:=.ref C,dict:=some c.objs.size,data:=.fields #[.ref y,.none,.none,.none,.bool false,.none]} C (some<|dictOf [⟨PyData.keyHash w.params "why",.str "why"<|t+2,.str x tk⟩] 1):=⟨e2,rfl,rfl,d2⟩;dsimp only;refine af (arm_execs_cons ..)<|Qc (tJ rfl rfl nofun ?_);refine afZ λa5 f=>aeT i Y a6 hs<|set_plain (s:=⟨d,g,p,f,r⟩) XB I2 G.Ab<|oU (s:=⟨d,g,p,f+1,r⟩) XB I2 P g1 g2 g3 G.Ad λb=>ada (s:=⟨d,g,p,f+1,r⟩) (es:=[⟨PyData.keyHash w.params "why",.str "why"<|t+2,.str x tk⟩,⟨PyData.keyHash w.params "at",.str "at"<|f+1,.int (-1) a5⟩]) (n:=2) XB e2 rfl rfl d2 P B rfl rfl rfl (by simp) ?_;dsimp only;refine af (arm_execs_nil ..)<|Qp<|hq _ _ (λb o j W=>?_) λ_ KK=>KK y c.objs.size (PyData.keyHash w.params "why") (t+2) (PyData.keyHash w.params "at") (f+1) a5 2 ?_ ?_ ?_
 ·haveI hA:=J b o j W;refine af (QS _ _<|λz=>absurd (QP hA)<|by rw [←z];exact Nat.lt_irrefl _) ?_;exact I b o j hA
 ·refine af (QS _ _ h) ?_;exact e2
 ·cases z:hh.get? c.objs.size with
  |none=>rfl
  |some o=>exact absurd (QP<|J _ _ h z)<|Nat.lt_irrefl _
 ·refine af (Zb _ d2 rfl) ?_;rfl
end
end
section
def WF(K:Frag)(f:Addr):Prop:=∃d:FuncData,FnD K f d wfB []/\d.params.args.map (·.arg)=[Str.ofString "self",Str.ofString "why"]/\zg d.scope "Exception"=true
structure rS(K:Frag)(C:Addr):Prop where
 Ab:afY K C
 Aa:∃f,findIn K (.ref C) "__init__"=some (some<|.ref f)/\typeIn K (.ref f)=some (.type "function")/\WF K f
section
variable {U:Program} {w:World} {J:Nat->Value} {Y:Str->Option Addr} {hz:B0} {h h' hr h1:Heap} {ρ ρ':List (Addr×Addr)} {H H':Hp} {L L' I f C:Addr} {m m' mg mb:Str->Option Value} {A:Around}
 {s:Shared} {K:Frag} {env env':Env} {n:Nat} {x:Str} {t:Tok} {Q:Value->Shared->Prop} {E:Value->Shared->Prop}
theorem agb(j:A.depth<recursionLimit)(p:s.heap.NoLimit)(X:K.In s.heap)(G:afY K C)(W:WF K f)(hg:s.heap.Ns mainGlobals mg)(u:mg "Exception"=none)(v:s.heap.Ns builtinsNs mb)(B:mb "Exception"=some (.type "Exception"))
 (he:s.heap.get? e=some {cls:=.ref C,data:=.fields #[.ref t0,.none,.none,.none,.bool false,.none]})(D:mainGlobals≠e)(F:K.lookup e=none)
 (r:∀h' tk',(∀b o,b≠e->s.heap.get? b=some o->h'.get? b=some o)->abw C e x t s.heap h'->Q .none {s with heap:=h',toks:=tk'}):
 wpAny (model U w) A (call (.ref f) [.ref e,.str x t]) Q E s:=by
 refine eI W λd W a N=>?_;have g:=W.Ac;have i:d.params.args.length=2:=(QU ..).symm.trans<|Qt List.length a;haveI k:BindsTo s d ⟨[.ref e,.str x t],[]⟩ [("self",.ref e),("why",.str x t)]:=by
  haveI q:(d.params.args.map (·.arg)).zip ([Value.ref e,.str x t]++([]:List Value).drop (([]:List Value).length - (d.params.args.length - ([Value.ref e,.str x t]:List Value).length)))=[(("self":Str),Value.ref e),("why",.str x t)]:=by exact af a rfl
  refine cI q ?_;rcases W.Ae with ⟨q, -⟩|⟨T,o,n',q,hT,P⟩
  ·exact je (od:=none) g.p1 g.p2 g.p3 g.p4 (λM A E Q r=>by exact af q<|Qp r) rfl g.nd (Qk i.symm) (Qk i)<|QO _
  ·exact je (od:=some #[]) g.p1 g.p2 g.p3 g.p4 (λM A E Q r=>by exact af q<|wpAny_seqItems (X _ _ hT) P r) rfl g.nd (Qk i.symm) (Qk i)<|QO _
 have c:∀y∈[(("self":Str),Value.ref e),("why",.str x t)],d.scope.names.lookup y.1=some .local:=λy R=>g.Ad _ (by
  refine af a ?_;rcases Qz.mp R with rfl|R
  ·exact .head _
  ·exact af (QM.mp R)<|.tail _<|.head _)
 refine ze W.Ad λoc od a8 hK=>wpAny_call<|codeAny_call_def (fd:=d) j (X _ _ hK) rfl p (codeRec_of X W.Ab) W.Aa k g.Ab c (λh1 Z l=>?_) g.co g.Ac g.Aa;haveI hsz:s.heap.objs.size≠e:=ZA<|QP he;refine aga (s:={s with heap:=h1,toks:=s.toks+2}) (mL:=λy=>[(("self":Str),Value.ref e),("why",.str x t)].reverse.lookup y) (e:=e) (x:=x) (tk:=t) (mg:=mg) (mb:=mb) (K:=K) (C:=C) (t0:=t0) g.Aa (c _<|.head _) (c _<|.tail _<|.head _) (mu N) Z (by kernel_rfl) (by kernel_rfl) (by show h1.Ns d.globals mg;refine af W.gl ?_;exact hg.keeps l) u (by show h1.Ns d.builtins mb;refine af W.bl ?_;exact v.keeps l) B (X.keeps l) G (l _ _ he) hsz (by show d.globals≠e;refine af W.gl ?_;exact D) F ?_;refine λh' tk' k1 hh=>r h' tk' (λb o v ho=>k1 b o v<|l b o ho) λ_ KK=>hh _ λt2 d a1 a2 a3 a4 a5 n u1 u2 u3=>KK t2 d a1 a2 a3 a4 a5 n u1 ?_ u3
 cases z:s.heap.get? d with
 |none=>rfl
 |some o=>haveI:=l _ _ z;rw [show h1.get? d=none from u2] at this;exact ar this
theorem agc(u:A.depth+2<recursionLimit)(i:s.heap.NoLimit)(X:K.In s.heap)(GI:rS K C)(r:s.heap.Ns mainGlobals mg)(v:mg "Exception"=none)(p:s.heap.Ns builtinsNs mb)(y:mb "Exception"=some (.type "Exception"))
 (hq:∀h' tk' e,s.heap.get? e=none->(∀b o,s.heap.get? b=some o->h'.get? b=some o)->abw C e x t s.heap h'->Q (.ref e) {s with heap:=h',toks:=tk'}):
 wpAny (model U w) A (call (.ref C) [.str x t]) Q E s:=by
 obtain⟨G,f,B,D,W⟩:=GI;refine G.Aa _ λnm q N bs bm sn sub ab b7 dd k0 k1 k2 k3 k5 M cE cO cA cN cB P=>?_;haveI F:=PySem.F.excBase_Exception;obtain⟨h,g,d,tt,os⟩:=s;haveI c:=X _ _ M;dsimp only at c hq r p i X;haveI f1:=tc_lookup;haveI f2:=tc_bind<|.ref C;haveI hT:(⟨h,g,d,tt,os⟩:Shared).TypeIs (.ref C) "type":=bv _ c rfl;refine wpAny_call<|codeAny_of_tree ?_;show wpAny _ _ (callAny (.ref C) _) _ _ _
 repeat (any_goals (first|assumption|with_reducible refine wpAny_loadPart_at c ?_|wp_step))
 refine⟨rfl,?_⟩;refine codeAny_call_builtin_at (Code.quiet_builtin _<|by decide+kernel) entry_typeCall<|wpAny_check_type_call_sub c ?_
 repeat (first|with_reducible refine wpAny_loadPart_at c ?_|with_reducible refine wpAny_madeBy_exc c ?_|wp_step)
 refine codeAny_call_builtin_code (Code.quiet_builtin _ F.quiet)<|rQ cE c ?_;refine aiy (rest:=[Value.str x t]) cE cA cN c ?_ (by simp [sizeLine_eq]);have k:∀b o,h.get? b=some o->((h.push {cls:=.type "tuple",data:=.seq [Value.str x t].toArray}).push {cls:=.ref C,data:=.fields #[.ref h.objs.size,.none,.none,.none,.bool false,.none]}).get? b=some o:=
  λb o e=>Qu _<|Qu _ e
 haveI j:((h.push {cls:=.type "tuple",data:=.seq [Value.str x t].toArray}).push
  {cls:=.ref C,data:=.fields #[.ref h.objs.size,.none,.none,.none,.bool false,.none]}).get? (h.objs.size+1)=some
  {cls:=.ref C,data:=.fields #[.ref h.objs.size,.none,.none,.none,.bool false,.none]}:=by heap_get
 generalize ((h.push {cls:=.type "tuple",data:=.seq [Value.str x t].toArray}).push {cls:=.ref C,data:=.fields #[.ref h.objs.size,.none,.none,.none,.bool false,.none]})=R at*;haveI l:=k _ _ c;haveI Z:K.In R:=X.keeps k;have a0:(Value.ref C::bm).contains (.ref C)=true:=by simp
 repeat (first|with_reducible refine wpAny_loadPart_at j ?_|(with_reducible refine wpAny_isSubtype_exc l<|af a0 ?_)|wp_step)
 refine(looks_findIn Z B).at<|Zg<|Qc<|(bind_fn Z _ D).at ?_;refine Qc ?_;have a6:K.lookup (h.objs.size+1)=none:=by
  cases z:K.lookup (h.objs.size+1) with
  |none=>rfl
  |some o=>exact absurd (QP<|X _ _ z)<|QH.mpr<|Nat.le_succ _
 have a7:mainGlobals≠h.objs.size+1:=λz=>by
  refine oq r λo _ _ ho _=>?_;clear r;rw [z] at ho;exact absurd (QP ho)<|QH.mpr<|Nat.le_succ _
 refine agb (s:=⟨R,g,d,tt,os⟩) ?_ (i.at λo=>k _ o) Z G W (r.keeps k) v (p.keeps k) y j a7 a6 λh' tk' k1 hh=>?_
 ·show(A.under<|.builtin "type.__call__" ⟨.ref C::[.str x t],[]⟩).depth<_;exact af jf<|Zq ‹_›
 refine Qp ?_;dsimp only;refine af (Qe<|by decide)<|Qp ?_;have a:h.get? (h.objs.size+1)=none:=by
  cases z:h.get? (h.objs.size+1) with
  |none=>rfl
  |some o=>exact absurd (QP z)<|QH.mpr<|Nat.le_succ _
 refine hq h' tk' _ a (λb o p=>k1 b o (λz=>by rw [z,a] at p;injection p)<|k b o p) λ_ KK=>hh _ λt2 dn a1 a2 a3 a4 a5 nn u1 u2 u3=>KK t2 dn a1 a2 a3 a4 a5 nn u1 ?_ u3
 cases z:h.get? dn with
 |none=>rfl
 |some o=>haveI:=k _ _ z;rw [show R.get? dn=none from u2] at this;injection this
theorem adb(X:Cx J Y K mg mb n hz L A env)(G:∀k C,gX k bF=true->Y k=some C->rS K C)(c:mg "Exception"=none)(d:mb "Exception"=some (.type "Exception"))(U:Program)(w:World):li U w J Y hz L A:=by
 intro k C x t s ρ H m y i Z Q E z;haveI B:K.In s.heap:=X.D.X.keeps Z.st.Aa;refine agc (by haveI:=X.Aa;lia) (X.Ae.at λo=>Z.st.Aa _ o) B (G k C y i) (X.D.g.keeps Z.st.Aa) c (X.D.b.keeps Z.st.Aa) d λh' tk' e a j D=>D _ λt2 F a1 a2 a3 a4 a5 M N P R=>z h' tk' e ⟨λb o g _=>j b o g,λb o g _=>⟨o.slots,j b o g⟩,λ_ K=>K C _ F _ M _ none i N rfl rfl rfl R (λρ h=>.Aa rfl (.Am _ _)<|.Aa rfl (.Ac _ _) .Ab) rfl a P rfl rfl⟩ λp W=>dN (Z.st.at W) λ_ _ _ _ r=>aP r.Aa λl u=>aT l λo1 h1 _=>?_;clear l;refine aT u λo2 v _=>?_;clear u;exact⟨λq=>by rw [←q,a] at h1;injection h1,λq=>by rw [←q,a] at v;injection v⟩
end
end
end Mine
end
section
open PySem PySem.W PyProof.Rows PySem.Calls
set_option Elab.async false
set_option linter.all false
set_option maxRecDepth 100000
set_option maxHeartbeats 2000000
set_option tactic.hygienic false
set_option genSizeOf false
set_option genCtorIdx false
set_option genInjectivity false
namespace Mine.SP
noncomputable abbrev PM(a:Type):=StateT SortSt Option a
noncomputable def Az(v:Value)(k:Value->b):b:=match v with
 | .str a t=>k<|.str a t
 |v=>k v
def AH(p:Value×Value)(k:Value×Value->a):a:=match p with
 |(u,v)=>Az u λu=>Az v λv=>k (u,v)
noncomputable def Ax:List (Value×Value)->(List (Value×Value)->a)->a
 |[],k=>k []
 |p::r,k=>AH p λp=>Ax r λr=>k<|p::r
theorem Ay:Az v k=k v:=by unfold Az;split<;>rfl
theorem AJ:AH v k=k v:=by obtain⟨a,b⟩:=v;unfold AH;dsimp only;exact af Ay<|af Ay rfl
theorem Av:∀{l:List (Value×Value)} {k:List (Value×Value)->a},Ax l k=k l
 |[],k=>rfl
 |p::r,k=>by unfold Ax;exact af AJ<|af Av rfl
def Bb(f:SortSt->SortSt):PM PUnit:=λs=>Ax (arrOf<|f s).toList λl=>some (⟨⟩,setArr (f s) ⟨l⟩)
noncomputable def AS:List Nat->List Nat->Bool
 |_,[]=>false
 |[],_::_=>true
 |a::r,b::t=>Nat.blt a b||(Nat.beq a b&&AS r t)
theorem AI:∀(l r:List Nat),AS l r=decide (l<r)
 |[],[]=>rfl
 |a::l,[]=>by simp [AS]
 |[],b::r=>by simp [AS]
 |a::l,b::r=>by
  haveI d:Nat.blt a b=decide (a<b):=by
   by_cases h:a<b
   ·exact af (QY h)<|Nat.ble_eq_true_of_le h
   ·refine af (QT h) ?_
    cases q:Nat.blt a b with
    |false=>rfl
    |true=>exact absurd (Qy q) h
  haveI e:Nat.beq a b=decide (a=b):=by
   by_cases h:a=b
   ·exact af (QY h)<|af h<|Nat.beq_refl b
   ·refine af (QT h) ?_
    cases q:Nat.beq a b with
    |false=>rfl
    |true=>exact absurd (Nat.eq_of_beq_eq_true q) h
  unfold AS;refine af (AI l r)<|af d<|af e ?_;haveI:(a::l<b::r)↔(a<b∨a=b/\l<r):=List.cons_lt_cons_iff
  by_cases h:a<b<;>by_cases h':a=b<;>by_cases c:l<r<;>simp [this,h,h',c]
def Bh(x y:Value×Value):PM (Option Bool):=λst=>match x.1,y.1 with
 | .str a _,.str b _=>some (some<|AS a.cps.toList b.cps.toList,st)
 |_,_=>none
def Bg(m:StateT SortSt Sem b)(c:PM b):Prop:=∀(U:Program) (w:World) (A:Around) (E:Value->Shared->Prop) (s:Shared) (st:SortSt) (a:b) (st':SortSt),kindOf st=oneType'->c st=some (a,st')->
 kindOf st'=oneType'/\∀Q:b->SortSt->Prop,Q a st'->wpS (model U w) A E s m Q st
structure Au{α:Type}(m:StateT SortSt Sem α) where
 Aa:PM α
 ok:Bg m Aa
noncomputable def Ab(a:b):Au (pure a:StateT SortSt Sem b):=⟨λst=>some (a,st),λ_ _ _ _ _ _ _ _ c e=>by injection e with z1;injection z1 with z2 z3;subst z2;subst z3;exact⟨c,λQ d=>wpS_pure d⟩⟩
def Ae(a:Au m)(b:∀x,Au<|f x):Au (m>>= f):=
 ⟨λst=>match a.Aa st with|some (x,st')=>(b x).Aa st'|none=>none,λU w A E s st r st' d e=>by
  dsimp only at e
  cases h:a.Aa st with
  |none=>rw [h] at e;exact ar e
  |some p=>
   obtain⟨x,c⟩:=p;rw [h] at e;exact aP (a.ok U w A E s st x c d h) λg i=>aP ((b x).ok U w A E s c r st' g e) λj k=>⟨j,λQ l=>wpS_bind<|i _<|k Q l⟩⟩
noncomputable def Aa:Au (get:StateT SortSt Sem SortSt):=⟨λst=>some (st,st),λ_ _ _ _ _ _ _ _ a e=>by injection e with z4;injection z4 with z5 z6;subst z5;subst z6;exact⟨a,λQ b=>wpS_get b⟩⟩
theorem AA(s:SortSt):setArr s (arrOf s)=s:=by cases s;rfl
theorem AK(f:SortSt->SortSt)(st:SortSt):Bb f st=some (⟨⟩,f st):=by
 unfold Bb;exact af Av rfl
def Ak(f:SortSt->SortSt)(a:∀st,kindOf (f st)=kindOf st):Au (modify f:StateT SortSt Sem PUnit):=
 ⟨Bb f,λ_ _ _ _ _ st _ _ b e=>by rw [AK] at e;injection e with z7;injection z7 with z8 z9;subst z8;subst z9;exact⟨(a st).trans b,λQ c=>wpS_modify c⟩⟩
theorem AR{st x:SortSt}(h:Q ⟨⟩ x):wpS M A E s (set x:StateT SortSt Sem PUnit) Q st:=by
 unfold wpS;exact af (StateT.run_set ..)<|Qp ⟨rfl,h⟩
noncomputable def AT(k:SortKind):Bool:=by
 cases k
 ·exact false
 ·exact true
 ·exact false
theorem AL(h:AT k=true):k=oneType':=by
 cases k<;>first|rfl|injection h
def Ai(x:SortSt):Au (set x:StateT SortSt Sem PUnit):=
 ⟨λst=>if AT (kindOf x) then Ax (arrOf x).toList λl=>some (⟨⟩,setArr x ⟨l⟩) else none,λ_ _ _ _ _ st _ _ b e=>by
  dsimp only at e
  split at e
  ·rename_i h
   rw [Av,show setArr x ⟨(arrOf x).toList⟩=x from AA x] at e;injection e with z10;injection z10 with z11 z12;subst z11;subst z12;exact⟨AL h,λQ a=>AR a⟩
  ·injection e⟩
def Al[d:Decidable c](x:Au a)(y:Au b):Au (if c then a else b):=
 ⟨λst=>if c then x.Aa st else y.Aa st,λU w A E s st r st' f e=>by
  dsimp only at e
  by_cases h:c
  ·rw [Qh h] at e;exact af (Qh h)<|x.ok U w A E s st r st' f e
  ·rw [Qe h] at e;exact af (Qe h)<|y.ok U w A E s st r st' f e⟩
theorem AB(h:Q () s):wpAny M A (rule t) Q E s:=λ_ _ _=>h
noncomputable def Ad(t:String):Au (liftM (rule t):StateT SortSt Sem Unit):=⟨λst=>some ((),st),λ_ _ _ _ _ _ _ _ b e=>by haveI a:=Qb e;injection a with z14 z15;subst z14;subst z15;exact⟨b,λQ c=>wpS_lift<|AB ⟨rfl,c⟩⟩⟩
noncomputable def AV(m:StateT SortSt Sem a):Au m:=⟨λ_=>none,λ_ _ _ _ _ _ _ _ b e=>by injection e⟩
noncomputable abbrev AY(f:Nat->a->StateT SortSt Sem (ForInStep a))(l:List Nat)(r:ForInStep a):StateT SortSt Sem a:=match r with
 | .done b=>pure b
 | .yield b=>forIn l b f
noncomputable def AZ(k:∀b,Au<|forIn l b f):∀r,Au<|AY f l r
 | .done b=>Ab b
 | .yield b=>k b
theorem AG:(f i b>>= AY f l)=forIn (i::l) b f:=by
 refine af (List.forIn_cons ..) ?_;congr 1
noncomputable def AN{f:Nat->a->StateT SortSt Sem (ForInStep a)}(g:∀i b,Au<|f i b):∀(l:List Nat) (b:a),Au<|forIn l b f
 |[],b=>⟨λst=>some (b,st),by exact af List.forIn_nil<|(Ab b).ok⟩
 |i::l,b=>⟨(Ae (g i b)<|AZ<|AN g l).Aa,AG (f:=f) ▸(Ae (g i b)<|AZ<|AN g l).ok⟩
def Ao{f:Nat->a->StateT SortSt Sem (ForInStep a)}(r:Std.Legacy.Range)(b:a)(g:∀i b,Au<|f i b):Au (forIn r b f):=
 ⟨(AN g (List.range' r.start r.size r.step) b).Aa,by exact af (Std.Legacy.Range.forIn_eq_forIn_range' ..)<|(AN g _ b).ok⟩
set_option tactic.hygienic true in
def An(x y:Value×Value):Au ((sortPriv%PySem.Builtin.lt) x y):=⟨Bh x y,λU w A E s st a st' f e=>by
 obtain⟨x1,h⟩:=x;obtain⟨i,j⟩:=y;unfold Bh at e;dsimp only at e
 split at e
 ·rename_i a b c d k l
  rw [AI] at e;injection e with z16;injection z16 with z17 z18;subst z17;subst z18;refine⟨f,λQ g=>?_⟩;show wpS _ _ _ _ (lt' _ _) _ _;refine af (lt'_eq ..)<|wpS_bind<|wpS_get ?_;refine af (f ..)<|af (keyLt'_oneType ..)<|wpS_bind<|wpS_lift<|wpAny_attempt<|oneLt_str ⟨rfl,?_⟩;exact wpS_pure g
 ·injection e⟩
noncomputable def Af(a:Array Keyed)(i:Nat):Au ((sortPriv%PySem.Builtin.elem) a i):=⟨λst=>match a.toList[i]? with|some p=>some (p,st)|none=>none,by
 intro U w A E s st r st' b e;dsimp only at e;rw [ZC] at e
 cases h:a[i]? with
 |none=>rw [h] at e;exact ar e
 |some p=>
  rw [h] at e;injection e with z19;injection z19 with z20 z21;subst z20;subst z21;refine⟨b,λQ c=>?_⟩;show wpS _ _ _ _ (elem' a i) _ _;exact af (elem'_eq ..)<|af (h ..)<|wpS_pure c⟩
def Ag(i j:Nat):Au ((sortPriv%PySem.Builtin.ltAt) i j):=by
 exact Ae Aa λst=>Ae (Af _ _) λx=>Ae (Af _ _) λy=>An _ _
def Ac(i j:Nat):Au ((sortPriv%PySem.Builtin.reverseSlice) i j):=Ak _ λ_=>rfl
noncomputable def AD(l:List Keyed)(src a:Nat):List Keyed:=match l[src]? with
 |some p=>l.take a++p::((l.drop a).take (src - a)++l.drop (src+1))
 |none=>l
theorem AW(h:j<=i)(c:i<xs.size):bubble xs i (i - j)=⟨AD xs.toList i j⟩:=by
 haveI l:xs.toList.length=xs.size:=rfl;haveI m:xs.toList[i]?=some xs.toList[i]:=Qw c;apply Array.ext_getElem?;intro k;refine af (getElem?_bubble c (i - j) (Nat.sub_le ..) k) ?_;refine af (show(⟨AD xs.toList i j⟩:Array Keyed)[k]?=(AD xs.toList i j)[k]? from by rw [←ZC]) ?_;unfold AD;refine af m<|af (List.getElem?_append) ?_;refine af QL<|af l<|af (Nat.sub_sub_self h)<|af (ZE<|Zq<|Qv h c) ?_
 by_cases a:k<j
 ·refine af (Qe<|QC a)<|af (Qe<|λq=>Nat.lt_asymm a q.1)<|af (Qh a)<|af (List.getElem?_take_of_lt a) ?_;exact af (ZC) rfl
 ·refine af (Qe a) ?_
  by_cases g:k=j
  ·subst g;refine af (Qh rfl ..)<|af (Nat.sub_self ..)<|af (List.getElem?_cons_zero ..) ?_;exact cI (m ..)<|af (ZC ..) rfl
  ·refine af (Qe g)<|bC (Nat.exists_eq_add_of_lt<|amV g a) λd n=>?_;subst n;refine af (show j+d+1 - j=d+1 from ZG j<|d+1)<|af (List.getElem?_cons_succ) ?_;refine af (List.getElem?_append) ?_;refine af QL<|af QK<|af l<|af (ZE<|Nat.sub_le_sub_right (Zq c) j) ?_
   by_cases f:j+d+1<=i
   ·have b:d<i - j:=Nat.le_sub_of_add_le' f;refine af (Qh ⟨Nat.lt_succ_of_le<|Qq ..,f⟩)<|af (Qh b)<|af (List.getElem?_take_of_lt b) ?_;refine af (List.getElem?_drop) ?_;exact af (ZC) rfl
   ·have b:¬d<i - j:=λq=>f (by have:=Nat.add_lt_of_lt_sub' q;exact this);refine af (Qe λq=>f q.2)<|af (Qe b)<|af (List.getElem?_drop) ?_;refine af (ZC) ?_;refine Qt (xs[·]?)<|bC (Nat.exists_eq_add_of_le<|QH.mp b) λe q=>?_;subst q;rw [ZG,ZF,←Zt,ZF j,Nat.add_sub_cancel' h]
def Ah(i j:Nat):Au ((sortPriv%PySem.Builtin.moveDown) i j):=
 ⟨λst=>if j<=i/\i<(arrOf st).toList.length then Ax (AD (arrOf st).toList i j) λl=>some (⟨⟩,setArr st ⟨l⟩) else none,by
  intro U w A E s st r st' b e;dsimp only at e
  split at e
  ·rename_i a
   rw [Av] at e;injection e with z22;injection z22 with z23 z24;subst z23;subst z24;refine⟨b,λQ c=>?_⟩;show wpS _ _ _ _ (moveDown' i j) _ _;exact af (moveDown'_eq ..)<|wpS_modify<|af (AW a.1 a.2) c
  ·injection e⟩
def Aj(i:Nat):Au ((sortPriv%PySem.Builtin.setMinGallop) i):=Ak _ λ_=>rfl
def As(a n c:Nat):Au ((sortPriv%PySem.Builtin.binarySort) a n c):=by
 refine Ae (Ao _ _ λk b=>?_) (λ|(none,_)=>?_|(some _,_)=>?_)
 repeat' (first
  |with_reducible exact Ab _|with_reducible exact Aa|with_reducible exact Ad _|with_reducible exact Ai _|with_reducible exact An _ _|with_reducible exact Af _ _|with_reducible exact Ag _ _
  |with_reducible exact Ac _ _|with_reducible exact Ah _ _|with_reducible exact Aj _|with_reducible exact Ak _ λ_=>rfl
  |with_reducible refine Al ?_ ?_|with_reducible refine Ao _ _ λ_ _=>?_
  |with_reducible refine Ae ?_ (λ|(none,_)=>?_|(some _,_)=>?_)|with_reducible refine Ae ?_ (λ|none=>?_|some _=>?_)|with_reducible refine Ae ?_ λ_=>?_
  |dsimp only)
def Aq(a n:Nat):Au ((sortPriv%PySem.Builtin.countRun) a n):=by
 refine Ae (Ao _ _ λk b=>?_) (λ|(none,_)=>?_|(some _,_)=>?_)
 repeat' (first
  |with_reducible exact Ab _|with_reducible exact Aa|with_reducible exact Ad _|with_reducible exact Ai _|with_reducible exact An _ _|with_reducible exact Af _ _|with_reducible exact Ag _ _
  |with_reducible exact Ac _ _|with_reducible exact Ah _ _|with_reducible exact Aj _|with_reducible exact Ak _ λ_=>rfl
  |with_reducible refine Al ?_ ?_|with_reducible refine Ao _ _ λ_ _=>?_
  |with_reducible refine Ae ?_ (λ|(none,_)=>?_|(some _,_)=>?_)|with_reducible refine Ae ?_ (λ|none=>?_|some _=>?_)|with_reducible refine Ae ?_ λ_=>?_
  |dsimp only)
def Am(a:Bool)(key:Keyed)(c:Array Keyed)(base n b:Nat):Au ((sortPriv%PySem.Builtin.gallop) a key c base n b):=by
 refine Ae ?_ (λ|none=>?_|some _=>?_)
 repeat' (first
  |with_reducible exact Ab _|with_reducible exact Aa|with_reducible exact Ad _|with_reducible exact Ai _|with_reducible exact An _ _|with_reducible exact Af _ _|with_reducible exact Ag _ _
  |with_reducible exact Ac _ _|with_reducible exact Ah _ _|with_reducible exact Aj _|with_reducible exact Ak _ λ_=>rfl
  |with_reducible refine Al ?_ ?_|with_reducible refine Ao _ _ λ_ _=>?_
  |with_reducible refine Ae ?_ (λ|(none,_)=>?_|(some _,_)=>?_)|with_reducible refine Ae ?_ (λ|none=>?_|some _=>?_)|with_reducible refine Ae ?_ λ_=>?_
  |dsimp only)
def AE(a b:Array Keyed):Au ((sortPriv%PySem.Builtin.mergeLo) a b):=by
 refine Ae (Ad _) λ_=>?_
 repeat' (first
  |with_reducible exact Ab _|with_reducible exact Aa|with_reducible exact Ad _|with_reducible exact Ai _|with_reducible exact An _ _|with_reducible exact Af _ _|with_reducible exact Ag _ _
  |with_reducible exact Ac _ _|with_reducible exact Ah _ _|with_reducible exact Aj _|with_reducible exact Ak _ λ_=>rfl
  |with_reducible exact Am _ _ _ _ _ _
  |with_reducible refine Al ?_ ?_|with_reducible refine Ao _ _ λ_ _=>?_
  |with_reducible refine Ae ?_ (λ|(none,_)=>?_|(some _,_)=>?_)|with_reducible refine Ae ?_ (λ|none=>?_|some _=>?_)|with_reducible refine Ae ?_ λ_=>?_
  |dsimp only)
 exact AV _
def Bc{f:Array Keyed->Array Keyed->StateT SortSt Sem i}(g:∀a b,Au<|f a b)(a b:Array Keyed):Au (f a b):=
 ⟨λst=>Ax a.toList λc=>Ax b.toList λd=>(g ⟨c⟩ ⟨d⟩).Aa st,by
  intro U w A E s st r st' h e;dsimp only at e;rw [Av,Av] at e;exact(g a b).ok U w A E s st r st' h e⟩
def Ar(a b:Array Keyed):Au ((sortPriv%PySem.Builtin.mergeLo) a b):=Bc (f:=sortPriv%PySem.Builtin.mergeLo) AE a b
def Ap(i:Nat):Au ((sortPriv%PySem.Builtin.mergeAt) i):=by
 refine Ae Aa λst=>?_;generalize (pendingOf st)[i]?=b;generalize (pendingOf st)[i+1]?=c;rcases b with _|⟨d,e,a⟩
 ·exact AV _
 rcases c with _|⟨sb,f,_⟩
 ·exact AV _
 repeat' (first
  |with_reducible exact Ab _|with_reducible exact Aa|with_reducible exact Ad _|with_reducible exact Ai _|with_reducible exact An _ _|with_reducible exact Af _ _|with_reducible exact Ag _ _
  |with_reducible exact Ac _ _|with_reducible exact Ah _ _|with_reducible exact Aj _|with_reducible exact Ak _ λ_=>rfl
  |with_reducible exact Am _ _ _ _ _ _|with_reducible exact Ar _ _
  |with_reducible refine Al ?_ ?_|with_reducible refine Ao _ _ λ_ _=>?_
  |with_reducible refine Ae ?_ (λ|(none,_)=>?_|(some _,_)=>?_)|with_reducible refine Ae ?_ (λ|none=>?_|some _=>?_)|with_reducible refine Ae ?_ λ_=>?_
  |dsimp only)
 all_goals exact AV _
def AU:Au (sortPriv%PySem.Builtin.sortRuns):=by
 refine Ae Aa λst=>?_
 repeat' (first
  |with_reducible exact Ab _|with_reducible exact Aa|with_reducible exact Ad _|with_reducible exact Ai _|with_reducible exact An _ _|with_reducible exact Af _ _|with_reducible exact Ag _ _
  |with_reducible exact Ac _ _|with_reducible exact Ah _ _|with_reducible exact Aj _|with_reducible exact Ak _ λ_=>rfl
  |with_reducible exact Aq _ _|with_reducible exact As _ _ _|with_reducible exact Ap _
  |(generalize Array.back? _=o;rcases o with _|⟨_,_,_⟩)
  |with_reducible refine Al ?_ ?_|with_reducible refine Ao _ _ λ_ _=>?_
  |with_reducible refine Ae ?_ (λ|(none,_)=>?_|(some _,_)=>?_)|with_reducible refine Ae ?_ (λ|none=>?_|some _=>?_)|with_reducible refine Ae ?_ λ_=>?_
  |dsimp only)
 all_goals
  rename_i st'
  generalize (if(pendingOf st').size>1 then(pendingOf st')[(pendingOf st').size - 2]? else none)=o;rcases o with _|⟨_,_,_⟩
 all_goals dsimp only
 all_goals repeat' (first
  |with_reducible exact Ab _|with_reducible exact Aa|with_reducible exact Ad _|with_reducible exact Ai _|with_reducible exact An _ _|with_reducible exact Af _ _|with_reducible exact Ag _ _
  |with_reducible exact Ac _ _|with_reducible exact Ah _ _|with_reducible exact Aj _|with_reducible exact Ak _ λ_=>rfl
  |with_reducible exact Ap _
  |with_reducible refine Al ?_ ?_|with_reducible refine Ao _ _ λ_ _=>?_
  |with_reducible refine Ae ?_ (λ|(none,_)=>?_|(some _,_)=>?_)|with_reducible refine Ae ?_ (λ|none=>?_|some _=>?_)|with_reducible refine Ae ?_ λ_=>?_
  |dsimp only)
end Mine.SP
end
section
open PySem PySem.W PyProof.Rows PySem.Calls
set_option Elab.async false
set_option linter.all false
set_option maxRecDepth 100000
set_option maxHeartbeats 1000000
set_option tactic.hygienic false
namespace Mine.SP
section
variable {U:Program} {w:World} {A:Around} {E:Value->Shared->Prop} {s:Shared}
theorem AO(j:s.heap.get? a=some (seqObj "list" (b::c::rest).toArray n))
 (k:keyKind' (b::c::rest).toArray=pure oneType')(d:AU.Aa (SortSt.mk' oneType' ((b::c::rest).toArray.zip (b::c::rest).toArray) #[] 7 none)=some ((),st'))(o:failedOf st'=none)(hsz:(arrOf st').size<=sizeLine)(f:(b::c::rest).length<=sizeLine)
 (h:P (.done<|.ret .none) {s with heap:=sortedHeap s.heap a (b::c::rest) ((arrOf st').map (·.2))}):
 wpAny (model U w) A (Builtin.«list.sort» ⟨[.ref a],[]⟩) P E s:=by
 refine af (list_sort_plain ..) ?_;haveI m:a<s.heap.objs.size:=QP j;refine Qc<|listItems_at j rfl ?_;refine Qc<|listUpdate_at j rfl ?_ (hsz:=by refine af Zc ?_;exact f);obtain⟨l,g⟩:∃l,(s.heap.update a<|Obj.mapSeq λ_=> #[]).get? a=some (seqObj "list" #[] l):=⟨_,get?_update_seq j<|λ_=> #[]⟩;refine Qc<|seqEpoch_at g rfl ?_;refine Qc<|wpAny_newTuple ?_ (by exact f);refine Qc<|wpAny_newList ?_;refine Zg ?_;haveI i:(((s.heap.update a<|Obj.mapSeq λ_=> #[]).push<|seqObj "tuple" (b::c::rest).toArray 0).push<|seqObj "list" #[] 0).get? a=some (seqObj "list" #[] l):=by
  refine af (Heap.get?_push_ne _ _ _<|by rw [size_push',Heap.size_update];exact QC<|Nat.lt_succ_of_lt m) ?_;refine af (Heap.get?_push_ne _ _ _<|by rw [Heap.size_update];exact QC m) ?_;exact g
 show wpAny (model U w) A _ P E {s with heap:=((s.heap.update a<|Obj.mapSeq λ_=> #[]).push<|seqObj "tuple" (b::c::rest).toArray 0).push (seqObj "list" #[] 0)};refine af (Qe<|by simp)<|af (Qe<|by simp)<|af k<|Qc<|Qp ?_;obtain⟨_,p⟩:=AU.ok U w A E {s with heap:=((s.heap.update a<|Obj.mapSeq λ_=> #[]).push<|seqObj "tuple" (b::c::rest).toArray 0).push (seqObj "list" #[] 0)} _ _ _ rfl d;refine Qc<|wpAny_mono (p (λ_ st=>st=st') rfl) ?_ λ_ _ e=>e
 rintro ⟨⟨⟩,st⟩ q ⟨rfl,rfl⟩
 refine Qc<|seqEpoch_at i rfl ?_;refine Qc<|listUpdate_at i rfl ?_ (hsz2:=by refine af Array.size_map ?_;exact Nat.le_succ_of_le hsz);refine af o ?_;simp only [bne_self_eq_false,Bool.false_eq_true,if_false];exact Qp h
end
end Mine.SP
end
section
open PySem PySem.W PyProof.Rows PySem.Calls
set_option Elab.async false
set_option linter.all false
set_option maxRecDepth 100000
set_option maxHeartbeats 1000000
set_option tactic.hygienic false
namespace Mine.SP
def Aw(v:Value):Option Str:=aeU none v (str:=λa _=>some a)
theorem Ba{G:Value->Prop}(h:Aw v=some x)(k:∀t,G<|.str x t):G v:=by
 cases v with
 |str a t=>injection h with h;subst h;exact k t
 |_=>exact ar h
noncomputable def AC(tk:Nat->Tok)(l:List Str):List Value:=l.zipIdx.map λp=>.str p.1<|tk p.2
noncomputable def Bi(vs:List Value):SortSt:=SortSt.mk' oneType' (vs.toArray.zip vs.toArray) #[] 7 none
noncomputable def Bd(o:Option Value):Bool:=o.isNone
def AF(vs:List Value):Option (Bool×List (Option Str)):=(AU.Aa<|Bi vs).map λr=>(Bd<|failedOf r.2,(arrOf r.2).toList.map λp=>Aw p.2)
theorem Be(tk:Nat->Tok):AF (AC tk mU)=some (true,bR.map some):=by kernel_rfl
theorem Bf(tk:Nat->Tok):AF (AC tk jJ)=some (true,bR.map some):=by kernel_rfl
theorem AP(h:vs.map Aw=l.map some):∃tk,vs=AC tk l:=by
 refine⟨λi=>vs[i]?.elim 0 λv=>aeU 0 v (str:=λ_ t=>t),List.ext_getElem? λi=>?_⟩;unfold AC;rw [QD,List.getElem?_zipIdx];have a:(vs.map Aw)[i]?=(l.map some)[i]?:=by rw [h]
 rw [QD,QD] at a
 cases c:vs[i]? with
 |none=>
  rw [c] at a
  cases b:l[i]? with
  |none=>rfl
  |some x=>rw [b] at a;injection a
 |some v=>
  rw [c] at a
  cases b:l[i]? with
  |none=>rw [b] at a;injection a
  |some x=>
   rw [b] at a;show some v=some (Value.str x<|vs[0+i]?.elim 0 λv=>aeU 0 v (str:=λ_ t=>t));rw [Nat.zero_add,c];exact Ba (G:=λv=>some v=some (Value.str x<|aeU 0 v (str:=λ_ t=>t))) (Qb a) λt=>rfl
theorem AX{h:Heap}:∀{l:List Str},vs.map Aw=l.map some->bN J ρ h vs (l.map .D):=by
 induction vs with
 |nil=>
  intro l e
  cases l with
  |nil=>exact .Ad
  |cons _ _=>injection e
 |cons v vs a=>
  intro l e
  cases l with
  |nil=>injection e
  |cons x l=>
   injection e with e1 e2;exact .Ab (Ba (G:=λv=>VR J ρ h v<|.D x) e1 λ_=>.Am _ _)<|a e2
section
variable {U:Program} {w:World} {J:Nat->Value} {Y:Str->Option Addr} {hz:B0} {ρ:List (Addr×Addr)} {H:Hp} {L:Addr} {m:Str->Option Value} {A:Around} {N:Heap->Heap->Addr->Str->Str->Prop} {s:Shared} {E:Value->Shared->Prop}
theorem AQ(a:AF vs=some (true,bR.map some))(hlen:vs.length=99)(j:∀v∈vs,∃x t,v=.str x t)(i:s.heap.get? D=some (seqObj "list" vs.toArray n))
 (h:∀(d:Array Value),d.toList.map Aw=bR.map some->Q .none {s with heap:=sortedHeap s.heap D vs d}):
 wpAny (model U w) A (call (.builtin "list.sort") [.ref D]) Q E s:=by
 unfold AF at a;refine aT (Zw.mp a) λk e f=>?_;obtain⟨_,st'⟩:=k;refine aP (Prod.mk.inj f) λl f=>?_;have g:failedOf st'=none:=Option.isNone_iff_eq_none.mp l
 cases vs with
 |nil=>injection hlen
 |cons b vs=>
 cases vs with
 |nil=>injection hlen with hlen;injection hlen
 |cons c rest=>
 have hsz:(arrOf st').size=99:=by
  have:=Qt List.length f;rw [QU,Array.length_toList] at this;exact this
 have o:StrsAre (b::c::rest) ((b::c::rest).map strOf):=strsAre_map _ j;refine wpAny_call_entry slot_list_sort (bv _ i rfl) entry_list_sort (AO i (keyKind_strs o) e g (by rw [hsz,sizeLine_eq];exact aU<|Qd 99) (by rw [hlen,sizeLine_eq];exact aU<|Qd 99)<|bv _ rfl<|h _ ?_)<|args_list_sort _;rw [←f,Array.toList_map,List.map_map];rfl
end
end Mine.SP
end
section
open PySem PySem.W PyProof.Rows PySem.Calls
namespace Mine
section
open SP
section
variable {U:Program} {w:World} {J:Nat->Value} {Y:Str->Option Addr} {hz:B0} {ρ:List (Addr×Addr)} {H:Hp} {L:Addr} {m:Str->Option Value} {A:Around} {N:Heap->Heap->Addr->Str->Str->Prop} {s:Shared} {E:Value->Shared->Prop}
theorem gw.Ak(r:gw J ρ h kvs l):kvs.map (·.1)=l.map (·.1):=by
 induction r with
 |Ae=>rfl
 | @Ac x _ _ _ _ _ _ a=>exact Qt (x::·) a
theorem agd{kvs:List (Str×Value)}{vs:List Value}(b:vs.length=kvs.length)(h:∀(i:Nat) (v:Value),vs[i]?=some v->∃k x,kvs[i]?=some (k,x)/\(strKind U w).is k v=true):vs.map Aw=(kvs.map (·.1)).map some:=by
 apply List.ext_getElem?;intro i;refine af (QD) ?_;refine af (QD) ?_;refine af (QD) ?_
 cases a:vs[i]? with
 |none=>
  exact af (oH b.symm a) rfl
 |some v=>
  refine cM (h i v a) λk x c d=>af c<|bC (Value.isStrOf_shape d) λt e=>?_;subst e;rfl
theorem age(hh:A.handled=none)(C:(hz.get? sysModules).isSome=true):abi U w J Y hz L A N:=by
 intro us args H ρ s m Z rs;refine ai.Am (t:=λus=>call (.builtin "sorted") us) rs λu v r=>?_
 cases v with
 |B i=>
  refine ai.Aj (t:=λu=>call (.builtin "sorted") [u]) Z r λo p ho hp R=>?_
  cases o with
  |B l ep=>
   refine ai.Ab λD=>aP R λhe z3=>dN z3 λkvs e hD _ hr=>?_;haveI lo:=Z.Ad C<|bw hp;haveI W:=hr.Ak;have d:kvs.length=99:=hr.Aa.trans<|(QU ..).symm.trans<|D.elim (λh=>(Qt List.length h).trans rfl) λh=>(Qt List.length h).trans rfl;intro Q E ee;refine jt<|call_function_entry kind_sorted plain_sorted entry_sorted (args_sorted1 _) ?_;refine Qc (m:=checkCount "sorted" 1 1 _)<|Qp ?_;refine Qc<|kdu_collect (A:=A.in1) (kdl_dict (knd:=strKind U w) (kvs:=kvs) (ep:=e) lo) hh hD (by rw [d,sizeLine_eq];exact aU<|Qd 99) λh' tk a hk f=>?_;have hl:a.toList.length=kvs.length:=by exact af Array.length_toList f.1
   haveI z:a.toList.map Aw=(kvs.map (·.1)).map some:=agd hl λj v ej=>f.2 j v (by refine cI (ZC) ?_;exact ej);rw [W] at z;haveI F:AF a.toList=some (true,bR.map some):=by
    rcases D with D|D<;>rw [D] at z<;>refine bC (AP z) λtk' hv=>?_<;>(refine af hv ?_)
    ·exact Be tk'
    ·exact Bf tk'
   refine Qc<|wpAny_newList ?_ (by(refine af hl ?_;refine af d ?_;refine af sizeLine_eq ?_);exact aU<|Qd 99);haveI a2:∀v∈a.toList,∃x t,v=.str x t:=λv hv=>by
    refine bC (List.mem_iff_getElem?.mp hv) λj hj=>cM (f.2 j v<|by refine cI (ZC) ?_;exact hj) λk x _ hi=>?_;refine bC (Value.isStrOf_shape hi) λt z4=>?_;subst z4;exact fK _ _ rfl
   haveI G:(h'.push {cls:=.type "list",data:=.seq a.toList.toArray}).get? h'.objs.size=some (seqObj "list" a.toList.toArray 0):=QI _ rfl;refine Qc<|Zg<|AQ (s:={s with heap:=h'.push {cls:=.type "list",data:=.seq a.toList.toArray},toks:=tk}) F (hl.trans d) a2 G λg B=>?_;refine Qp<|bv _ rfl ?_;haveI y:s.heap.get? h'.objs.size=none:=by
    cases q:s.heap.get? h'.objs.size with
    |none=>rfl
    |some o=>exact absurd (QP<|hk _ _ q)<|Nat.lt_irrefl _
   haveI kk:∀b o,s.heap.get? b=some o->(sortedHeap (h'.push {cls:=.type "list",data:=.seq a.toList.toArray}) h'.objs.size a.toList g).get? b=some o:=λb o hb=>by
    haveI I:=hk _ _ hb;haveI K:h'.objs.size≠b:=ZA<|QP I;unfold sortedHeap;refine af (QS _ _ K) ?_;refine Qu _<|Qu _ ?_;refine af (QS _ _ K) ?_;exact Qu _ I
   haveI c:∃n,(sortedHeap (h'.push {cls:=.type "list",data:=.seq a.toList.toArray}) h'.objs.size a.toList g).get? h'.objs.size=some ⟨.type "list",none,.seq g.toList.toArray n, #[]⟩:=by
    haveI P:∃e1,((h'.push {cls:=.type "list",data:=.seq a.toList.toArray}).update h'.objs.size<|Obj.mapSeq λ_=> #[]).get? h'.objs.size=some (seqObj "list" #[] e1):=⟨_,get?_update_seq G<|λ_=> #[]⟩;refine bC P λe1 _=>?_;clear P;rename_i P;exact⟨_,get?_update_seq (Qu _<|Qu _ P)<|λ_=>g⟩
   refine bC c λn' _=>?_;clear c;rename_i c;exact aP (Z.Am (p:=(h'.objs.size,h'.objs.size)) (o':=.A<|bR.map .D) kk y y<|λ_=>⟨rfl,g.toList,n',c,AX B⟩) λZ' M=>ee _ _ tk _ Z' M<|VR.An (p:=(h'.objs.size,h'.objs.size))<|Z.Ab _
  |_=>exact ai.Aa
 |_=>exact ai.Aa
end
end
section
section
variable {U:Program} {w:World} {J:Nat->Value} {Y:Str->Option Addr} {hz:B0} {h h':Heap} {ρ ρ':List (Addr×Addr)} {H H':Hp} {L la:Addr} {m mg mb:Str->Option Value} {A:Around} {N:Heap->Heap->Addr->Str->Str->Prop}
 {s:Shared} {K:Frag} {sc:Scope} {env:Env} {c:CF} {E:Value->Shared->Prop}
theorem aai(j:gJ sc env L)(I:jr sc "script"=some i)(Z:FS U w J Y hz L m ρ H s.heap)(P:m "script"=some (.ref la))(B:s.heap.IsList la vs.toArray)
 (C:bN J ρ s.heap vs xs)(R:xs.length<=63):
 ai U w J Y hz L m A N ρ s (du J) (eval (.Subscript (.Name "script" p2) (.Slice none (some<|.Constant (.int 63) k a) none p) D) env) (jp (.A xs) H):=by
 haveI q:eval (.Subscript (.Name "script" p2) (.Slice none (some<|.Constant (.int 63) k a) none p) D) env=(eval (.Name "script" p2) env>>= λu=>holding [u] (valueOrNone (evalOpt none env)>>= λl=>holding [l] (valueOrNone<|evalOpt (some<|.Constant (.int 63) k a) env)>>= λr=>holding [l,r] (pure .none)>>= λn=>newFields "slice" [l,r,n])>>= λi=>standAt D>>= λ_=>subscriptTail (.Name "script" p2) (.Slice none (some<|.Constant (.int 63) k a) none p) u i):=rfl;refine af q ?_;haveI W:env.scope.kind=.function:=by exact af j.Aa j.Ab
 haveI t:s.heap.Ns env.locals m:=by exact af j.Ac Z.ns
 intro Q E e;refine aL<|wpAny_Name (wpAny_loadName_local W (by show env.scope.names.lookup ("script":Str)=_;refine af j.Aa ?_;exact jX I) t P ?_) (by decide+kernel);refine aL<|Zg<|Qc<|Qp<|Qc<|Zg ?_;haveI hc:∀{Q:Value->Shared->Prop} {E:Value->Shared->Prop} {s:Shared},Q (.int 63 s.toks) {s with toks:=s.toks+1}->wpAny (model U w) A (valueOrNone<|evalOpt (some<|.Constant (.int 63) k a) env) Q E s:=λh _ _ _=>h;refine hc<|Qc<|Zg<|Qp ?_;refine wpAny_newObj_type ?_ (by size_fits);refine aC<|cg ?_;refine aP (Z.Af (h':=s.heap.push {cls:=.type "slice",data:=.fields #[.none,.int 63 s.toks,.none]}) λb o e=>Qu _ e) λF M=>?_;haveI v:(s.heap.push {cls:=.type "slice",data:=.fields #[.none,.int 63 s.toks,.none]}).IsSliceOf s.heap.objs.size .none (.int 63 s.toks) .none:=Heap.IsSliceOf.new _ _ _ _;haveI x:=C.Ac Z.st Z.ns M;haveI d:=C.Aa;refine eI B λo ho y G=>?_;clear B;refine bC G λn z=>?_;clear G;haveI f:(s.heap.push {cls:=.type "slice",data:=.fields #[.none,.int 63 s.toks,.none]}).IsList la vs.toArray:=cz o (Qu _ ho) y ⟨n,z⟩;refine aT (jP (J:=J) (ρ:=ρ) (h:=s.heap) (v:=.none) (a:=.C) (d:=0) .Ai rfl vs.length<|QO _) λlo pl el=>aT (jP (J:=J) (ρ:=ρ) (h:=s.heap) (v:=.int 63 s.toks) (a:=.A 63) (d:=vs.length) (i:=63) (.Ac _ _) rfl vs.length<|Qd _) λhi ph eh=>?_;haveI g:ai U w J Y hz L m A N ρ {s with heap:=s.heap.push {cls:=.type "slice",data:=.fields #[.none,.int 63 s.toks,.none]},toks:=s.toks+1} (du J) (subscriptTail (.Name "script" p2) (.Slice none (some<|.Constant (.int 63) k a) none p) (.ref la)<|.ref s.heap.objs.size) (jp (.A xs) H):=by
  refine ai.Ae F x λQ E e=>tail_any f.typeIs slot_list_getitem.lookup (wpAny_getItem_list_slice f v pl ph .none nofun ?_ (by haveI:=dm (show cx vs.length from by unfold cx;exact aU<|Qa (Qk d) R);simpa using this)) rfl;refine af (slicePick_plain ..) ?_;simp only [Zc];refine af el<|af eh ?_;rw [show min 63 vs.length=vs.length from by lia,show min 0 vs.length=0 from Qt _ ‹_›,List.drop_zero,Nat.sub_zero,List.take_length];exact e _
 exact g Q E<|ms.Aa F M e
theorem ade(d:gJ sc env L)(l:jr sc "script"=some i)
 (hs:pureOf (swappedStores [.Name "script" f] (.Subscript (.Name "script" p2) (.Slice none (some<|.Constant (.int 63) k n) none o) p)<|aeI sc)=some none)
 (Z:FS U w J Y hz L m ρ H s.heap)(u:m "script"=some (.ref la))(x:s.heap.IsList la vs.toArray)(y:bN J ρ s.heap vs xs)(z:xs.length<=63):
 aF U w J Y hz L A N ρ s (SR J sc) (exec (.Assign [.Name "script" f] (.Subscript (.Name "script" p2) (.Slice none (some<|.Constant (.int 63) k n) none o) p) pos) env) (.ok (Fl.Aa,Lc.Aa (λ_=>none) i<|.B H.length)<|H++[.A xs]):=by
 haveI q:∀t e,exec (.Assign [t] e pos) env=(standAt pos>>= λ_=>swapsWith e (some t) pos.line env>>= λb=>if b=true then(evalThenUse e env λv=>assignAll v<|(assignEach [t] env).map (·.2))>>= λ_=>pure Flow.next else eval e env>>= λv=>swappedStores [t] e env>>= λB=>assignStores env v B<|(assignEach [t] env).map (·.2)):=λ_ _=>rfl;refine af (q ..)<|aF.Aa<|af (show swapsWith (.Subscript (.Name "script" p2) (.Slice none (some<|.Constant (.int 63) k n) none o) p) (some<|.Name "script" f) pos.line env=pure false from rfl ..)<|af (pure_bind ..)<|af (Qe dd ..) ?_;haveI j:LR J sc m (λ_=>none) ρ s.heap:=λ_ _ _ _ e=>by exact ar e
 refine aF.Ae (r:=jp (.A xs) H) (g:=λv H'=>.ok (Fl.Aa,Lc.Aa (λ_=>none) i v) H') (aai d l Z u x y z).toM λb H' F C ρ' h' tk a D M r=>?_;obtain⟨rfl,r⟩:=r;refine af (lh d.Aa ..)<|af (of_pureOf hs ..)<|af (pure_bind ..)<|af (dL (by nofun)) ?_;haveI g:=abj (A:=A) (N:=N) (c:=λ_ _=>AM.Ac) (pos:=f) d l {s with heap:=h',toks:=tk} ρ' H' C (λ_=>none) a b D (j.Aa Z.st Z.ns M) r;exact aF.Ac g
end
end
theorem aiA{R:Result->Shared->Prop}(z:s.asleep)
 (h:dz (model U w) callerA t (λd b=>∃f,d=.done f/\R (.ok f) b/\leftWithCleanup b.gens=false) (λe b=>R (.error e) b/\leftWithCleanup b.gens=false) s):
 ∃n r b c,schedN (denote table) U w n (.single s ⟨t,.builtin "claim.caller" {},default,[]⟩)=.halted (outcomeOf r) c/\runN (denote table) U w n s ⟨t,.builtin "claim.caller" {},default,[]⟩=.halted (outcomeOf r) c/\c.forget=b.forget/\R r b:=
 wp_halts_full (M:=model U w) z (Sem.wp_mono _ _ _ (λd _ b g=>aT g λf e a=>by subst e;exact a) (λ_ _ _ a=>a) _ _
  (h ⟨.builtin "claim.caller" {},none,none,[],none⟩ default caller_in (by decide+kernel) (λ_ m=>nomatch m)))
abbrev aiB(q:Program)(b:List Str)(XP:(Str->Option Value)->Heap->Prop)(d:World->Heap->Prop)(r:RowW):Prop:=
 ∀(w:World) (s₀ a:Shared) (mg mb:Str->Option Value),Ground q b r.records XP w s₀ mg mb a.heap->d w a.heap->a.gens= #[]->∀(args:List WData) (vs:List Value) (as:List Addr),r.claim.pre args=true->ReadsAllW r.records (classAt s₀.heap) a.heap vs args as->
  ∃f,mg r.name=some f/\dz (model r.prog w) callerA (PySem.call f vs) (λv c=>GoodWG r.claim (classAt s₀.heap) (ExcName.means s₀.heap) args a (.ok<|.ret v) c) (λe c=>GoodWG r.claim (classAt s₀.heap) (ExcName.means s₀.heap) args a (.error e) c) a
theorem PySem.W.holds_open{r:OpenRow}{XP:(Str->Option Value)->Heap->Prop}
 (left:LeftO r.prog q loose Xt Yf Ya N)(hY:∀w s,Yf s=Ya w->YP w s.heap)(hYk:∀w h h',YP w h->(∀b o,h.get? b=some o->h'.get? b=some o)->YP w h')
 (hX:∀s,Xt s=true->XP (s.heap.nsMap mainGlobals) s.heap)(hXk:∀mg h h',XP mg h->(∀b o,h.get? b=some o->h'.get? b=some o)->XP mg h')
 (hdef:_root_.PySem.W.defOf q r.name=some (d,kwd))(hp:r.prog.theDef r.name=some (d.params,d.body,d.scope))(hk:kwWritten? d.params.kwonlyargs d.params.kw_defaults=some kwd)(hRf:∀s,Xt s=true->RecFacts r.records s.heap)(hwr:(!r.writes||r.records.isEmpty)=true)
 (k1:r.wellSaid=true)(ok:(chainsOk q&&opensWell r.prog&&(frees r.toRowW&&r.within.isEmpty))=true)(hb:r.prog.bare)(hw:r.toRowW.promised)
 (walk:aiB q loose XP YP r.toRowW):r.Holds:=by
 simp only [ZH] at ok;refine gx ok λz1 fr wi=>?_;clear ok;refine aP z1 λoc ow=>?_;clear z1;refine acu (frees_parts fr) λf1 f2 f3 f4 f5=>⟨k1,hw,⟨hb,ow,by show r.toRowW.makers.map _=[];refine af f5 ?_;rfl⟩,hw.witness,λw=>⟨(left.behind hX oc w).1,λsb hsb=>?_⟩⟩;refine eI ((left.behind (XP:=λmg h=>XP mg h/\RecFacts r.records h) (λs hs=>⟨hX s hs,hRf s hs⟩) oc w).2 sb hsb) λs₀ a1 a2 z2=>bC z2 λs z7=>gF z7 λT z g0 z7=>gx z7 λgm GG y=>?_;clear z2;have RF:=GG.X.2;have G0:Ground q loose [] XP w s (s.heap.nsMap mainGlobals) (s.heap.nsMap builtinsNs) s.heap:={GG with X:=GG.X.1};have ge:s.gens= #[]:=Array.eq_empty_of_size_eq_zero<|beq_iff_eq.mp g0;refine cz s₀ a1 a2<|⟨s,T,λn hn=>?_,RF.1,RF.2.1,λargs hpre hlay ord hord=>?_⟩
 ·obtain rfl:n=r.name:=by split at hn<;>simp_all
  exact pinned_of_view gm G0 hdef hp hk
 haveI G:Ground q loose r.toRowW.records XP w s _ _ s.heap:=RF.ground G0;refine bC (Option.isSome_iff_exists.mp<|layAllW_isSome (P:=w.params) (ord:=ord) G.has args r.toRowW.args s (pre_splitW hpre).1) λz3 lay=>?_;obtain⟨vs,s₁⟩:=z3;haveI kp:=layAllW_keeps _ _ _ lay;have al:=layAllW_rest _ _ _ lay;refine eI (reads_layAllW hord _ _ _ lay hlay s₁.heap<|λ_ _ e=>e) λas rd inn old=>?_;have L:Laid r.toRowW.records w s s₁ args vs as:=⟨bv ord hord lay,rd,inn,old,kp,al.1.trans ge,al.2.2.1⟩;haveI G1:=G.keeps hXk kp;refine aT (walk w s s₁ _ _ G1 (hYk _ _ _ (hY w s y) kp) L.gens args vs as hpre rd) λf hf hwp=>?_;haveI end_:∀{res:Result} {s':Shared},GoodWG r.toRowW.claim (classAt s.heap) (ExcName.means s.heap) args s₁ res s'->
  (r.toRowW.claim.Ends s args vs s₁ res s'/\s'.os=s.os/\(r.writes=true->namesKept r.prog r.keeps s.heap s'.heap/\∀x∈r.toRowW.claim.records,∀a,classAt s.heap x.1=some a->recordClass s'.heap a x.1 (x.2.map (·.1))=true))/\leftWithCleanup s'.gens=false:=λg=>
  have e:=g.laid (c:=r.toRowW.claim) f1 (List.isEmpty_iff.mp wi) (ident_freeW f2 f3 f4) L
  ⟨⟨e.1,e.2.1,λx=>⟨namesKept_of T gm r.keeps kp g.2.1.old,noTable hwr x⟩⟩,leftWithCleanup_false_of_bare e.2.2⟩
 obtain⟨n,res,s',s'',hs,hr,fo,ca,os,nk⟩:=aiA (U:=r.prog) (w:=w) (t:=do match ←nsGet mainNs r.name with
  |some f=>do ret (←PySem.call f vs)
  |none=>unsupported "claim.caller:no-such-global") (s:=s₁)
  (R:=λres s'=>r.toRowW.claim.Ends s args vs s₁ res s'/\s'.os=s.os/\(r.writes=true->namesKept r.prog r.keeps s.heap s'.heap/\∀x∈r.toRowW.claim.records,∀a,classAt s.heap x.1=some a->recordClass s'.heap a x.1 (x.2.map (·.1))=true))
  (Shared.asleep_of_life al.2.2.2 z) (aL (wpAny_nsGet G1.T.g (by
   exact af hf<|aC<|dg hwp (λv s' g=>aO<|bv _ rfl<|end_ g) λe s' g=>end_ g)))
 refine acu (Shared.forget_eq fo) λeh _ _ eo _=>?_;haveI ca:=ClaimW.Ends.congr eh ca;rw [←eh] at nk;rw [←eo] at os;haveI hl:s''.heap.life=s.heap.life:=(runN_life _ _ _ hr).trans al.2.2.2;refine qc vs s₁ lay<|ahi n _ s'' hs ?_ (λ_ i x hx=>by rw [ge] at hx;simp at hx) nk (by exact af hl rfl)<|Shared.rest_eq os;rcases ca with ⟨v,rfl,d1,d2,d3,d4,d5⟩|⟨e,ob,cls,rfl,d1,d2,d3,d4,d5⟩
 ·exact .inl<|⟨v,rfl,d1,d2,d3,λb o y _=>d4 b o y,d5⟩
 ·exact .inr<|ahi e ob cls rfl d1 d2 d3 d4<|λb o y _=>d5 b o y
end Mine
end
section
open PySem PySem.W PyProof.Rows PySem.Calls
open Builtin Builtin.ObjectAttr
namespace Mine
noncomputable def aom(a:Data):Option FuncData:=match a with
 | .func d=>some d
 |_=>none
noncomputable def aon(a:Data):Option (Array Value):=match a with
 | .seq xs _=>some xs
 |_=>none
noncomputable def alY(a:Data):Option ClassData:=match a with
 | .cls d=>some d
 |_=>none
def qr(K:Frag)(f:Addr):Option FuncData:=(K.lookup f).bind λo=>aom o.data
noncomputable def lW(d:FuncData):Option (List Stmt):=FuncBody.casesOn (motive:=λ_=>Option<|List Stmt) d.body some λ_=>none
def agf(K:Frag)(v:Value):Option (List Value):=Value.casesOn (motive:=λ_=>Option<|List Value) v (some []) none none (λ_=>none) (λ_ _=>none) (λ_ _=>none) (λ_ _=>none) (λ_ _=>none) (λ_=>none) (λ_=>none) λT=>(K.lookup T).bind λo=>(aon o.data).map Array.toList
def vN(K:Frag)(d:FuncData)(b:List Stmt):Bool:=d.globals ==mainGlobals&&(d.closure.isEmpty&&(d.builtins ==builtinsNs&&(codeIn K d.code d.qualname&&abt ⟨d.params,b,d.scope⟩)))
def aly(K:Frag)(f:Addr):Option (FD×Option (List V)):=
 (qr K f).bind λd=>(lW d).bind λb=>(agf K d.defaults).bind λds=>om (vN K d b)<|(afK ⟨d.params,b,d.scope⟩).bind λfd=>om (decide (fd.Ab.length<=fd.np))<|some (fd,ds.mapM uQ)
theorem agg{K:Frag}(h:qr K f=some d):∃b od a,K.lookup f=some ⟨b,od,.func d,a⟩:=bo h λo c h=>by
 obtain⟨b,od,e,a⟩:=o
 cases e with
 |func d'=>injection h with h;subst h;exact⟨b,od,a,c⟩
 |_=>exact ar h
theorem aeV{K:Frag}(i:qr K f=some d)(h2:lW d=some b)(a:agf K d.defaults=some ds)(j:vN K d b=true):FnD K f d b ds:=
 eS j λk h=>eS h λm h=>eS h λp h=>eS h λr h=>⟨agg i,by
  unfold lW at h2
  cases q:d.body with
  |stmts t=>rw [q] at h2;injection h2 with h2;subst h2;rfl
  |expr _=>rw [q] at h2;exact ar h2,eq_of_beq k,eq_of_beq p,List.isEmpty_iff.mp m,r,wP h,by
  cases q:d.defaults with
  |none=>rw [q] at a;haveI a:=Qb a;exact .inl ⟨rfl,a.symm⟩
  |ref T=>
   rw [q] at a;refine bo a λo s h=>bm (G:=λl=>(Value.ref T=.none/\l=[])∨∃g o n,Value.ref T=.ref g/\K.lookup g=some o/\o.data=.seq l.toArray n) h λxs c=>?_
   cases e:o.data with
   |seq ys n=>rw [e] at c;haveI c:=Qb c;subst c;exact .inr<|vg T o n rfl s e
   |_=>rw [e] at c;exact ar c
  |_=>rw [q] at a;exact ar a⟩
theorem agh{K:Frag}(h:aly K f=some (fd,some fd.Ab)):ahq K f fd:=λG k=>
 bo h λd a h=>bo h λb c h=>bo h λds g h=>dP h λi h=>bo h λj l h=>dP h λm h=>by
  refine aP (Prod.mk.inj<|Qb h) λn e=>?_;subst n;exact k d b ds (aeV a c g i) l e<|Ql m
noncomputable def gvL:List Addr:=[65,72,79,86,93,100,107,114,121,128,135,142,149,156,163,170,177,184,191,198,205,212,219,247,254,282,290,297,304,311,318,347,361,375,382,389,396,403,410,417,424,452,459,466,473,480,487,494,501,508,515,522,529,536,543,550,557,564,571,578,585,236,271,336,441,368,233,268,333,438]
def jh(i:Nat):Value:=.ref<|(gvL[i]?).getD 65
def mC(x:Str):Option Addr:=if vG x "Ether" then some 236 else if vG x "Packet" then some 271 else if vG x "Scene" then some 336 else if vG x "Talk" then some 441 else if vG x "Misused" then some 44 else if vG x "BadPacket" then some 56 else none
noncomputable def vO(K:Frag)(C:Addr)(a:Str):Bool:=hasDictIn K C&&(findIn K (.ref C) a).elim false (noGet K)
def aiC(K:Frag)(C:Addr)(a:Str):Bool:=plainGet K C a&&vO K C a
noncomputable def aiD(K:Frag)(C:Addr)(a:Str):Bool:=decide (findIn K (.ref C) "__setattr__"=some (some<|.builtin "object.__setattr__"))&&(plainOver K C&&decide (takerIn K C a=some none))
noncomputable def aaj(K:Frag)(C:Addr):Bool:=decide (findIn K (.ref C) "__getattribute__"=some (some<|.builtin "BaseException.__getattribute__"))&&(decide (findIn K (.ref C) "__getattr__"=some none)&&decide (mroIn K C (.type "BaseException")=some true))
noncomputable def alZ(K:Frag)(x:Str)(a:Addr):Bool:=decide (nsIn K mainGlobals x=some (some<|.ref a))
noncomputable def aiE(K:Frag)(x:Str):Bool:=decide (nsIn K mainGlobals x=some none)
noncomputable def vP(K:Frag)(C f:Addr):Bool:=decide (findIn K (.ref C) "__init__"=some (some<|.ref f))&&decide (typeIn K (.ref f)=some (.type "function"))
def abz(K:Frag)(C:Addr):Option ClassData:=(K.lookup C).bind λo=>alY o.data
noncomputable def anj(K:Frag)(C:Addr):Obj:=(K.lookup C).getD default
def slD(K:Frag)(C:Addr)(i:Nat):Option Value:=((anj K C).slots[i]?).join
noncomputable abbrev ama(A:Addr):List Value:=[.ref A,.type "Exception",.type "BaseException",.type "object"]
abbrev aiF(K:Frag)(C:Addr):Obj:=excClassObj ((abz K C).getD default).name ((abz K C).getD default).qualname C ((abz K C).getD default).ns ((abz K C).getD default).bases (ama 31) true ((abz K C).getD default).slotNames
 ((abz K C).getD default).subclasses ((abz K C).getD default).abstract ((abz K C).getD default).collection (anj K C).dict (slD K C 0) (slD K C 1) (slD K C 2) (slD K C 3) (slD K C 5) "Exception.__new__"
noncomputable def rV:Stmt:=.Assign [.Name "script" ⟨511,4,511,10⟩] (.Subscript (.Name "script" ⟨511,13,511,19⟩) (.Slice none (some<|.Constant (.int 63) 0 ⟨511,21,511,23⟩) none ⟨511,20,511,23⟩) ⟨511,13,511,24⟩) ⟨511,4,511,24⟩
def aak(K:Frag)(f:Addr):List Stmt:=((qr K f).bind lW).getD []
def tL(K:Frag)(f:Addr):Scope:=((qr K f).getD default).scope
def fnW(K:Frag)(f:Addr)(b:List Stmt):Option (List Str×List Value):=(qr K f).bind λd=>(agf K d.defaults).bind λds=>om (vN K d b)<|om (zg d.scope "Exception")<|some (d.params.args.map (·.arg),ds)
def agi(K:Frag)(C:Addr):Bool:=decide (findIn K (.ref C) "__setattr__"=some (some<|.builtin "object.__setattr__"))&&(decide (takerIn K C "why"=some none)&&(decide (takerIn K C "at"=some none)&&vP K C 28))
structure KF(K:Frag):Prop where
 Ag:gvL.map (aly K)=qE.map (Option.map λfd=>(fd,some fd.Ab))
 Ah:([(236,233),(271,268),(336,333),(441,438)].all λp=>makesIn K p.1&&vP K p.1 p.2)=true
 Ai:([236,271,336,441].all λC=>bE.all λa=>aiC K C a)=true
 Aj:([236,271,336,441].all λC=>bE.all λa=>aiD K C a)=true
 Ab:([44,56].all λC=>aaj K C&&bE.all λa=>vO K C a)=true
 Ac:([44,56].all λC=>agi K C)=true
 Aa:((44::56::gvL).all λa=>keepIn K<|.ref a)=true
 Ad:(((Str.ofString "Misused",44)::(Str.ofString "BadPacket",56)::aA.zip gvL).all λp=>alZ K p.1 p.2)=true
 Ak:((Str.ofString "Exception"::eP).all λx=>aiE K x)=true
 Ae:K.lookup 44=some (aiF K 44)
 Af:K.lookup 56=some (aiF K 56)
 wb:((qr K 28).bind lW)=some wfB
 wf:fnW K 28 wfB=some ([Str.ofString "self",Str.ofString "why"],[])
 lb:aak K 585=rV::(aak K 585).tail
 lc:cL (cS 199 (tL K 585) aA bF) (aak K 585).tail=some cF.Aa.tail
 ls:jr (tL K 585) "script"=some 0
 lw:pureOf (swappedStores [.Name "script" ⟨511,4,511,10⟩] (.Subscript (.Name "script" ⟨511,13,511,19⟩) (.Slice none (some<|.Constant (.int 63) 0 ⟨511,21,511,23⟩) none ⟨511,20,511,23⟩) ⟨511,13,511,24⟩)<|aeI<|tL K 585)=some none
section
theorem wT{d:Decidable c}{G:Prop}(h:(if c then some a else o)=some x)(b:c->a=x->G)(e:o=some x->G):G:=by
 cases d with
 |isTrue q=>haveI h:=Qb h;exact b q h
 |isFalse q=>exact e h
theorem wU(h:mC c=some C):C∈[236,271,336,441]∨(C∈[44,56]/\jq c=false):=
 wT h (λ_ e=>.inl<|e ▸by decide) λh=>wT h (λ_ e=>.inl<|e ▸by decide) λh=>wT h (λ_ e=>.inl<|e ▸by decide) λh=>wT h (λ_ e=>.inl<|e ▸by decide) λh=>
  wT h (λq e=>.inr ⟨e ▸by decide,by refine af (iw.mp q) ?_;decide+kernel⟩) λh=>wT h (λq e=>.inr ⟨e ▸by decide,by refine af (iw.mp q) ?_;decide+kernel⟩) λh=>ar h
theorem ig(h:gX x l=true):x∈l:=wO.mp h
theorem qK{K:Frag}(h:vO K C a=true):hasDictIn K C=true/\∃attr,findIn K (.ref C) a=some attr/\noGet K attr=true:=eS h λc b=>by
 cases q:findIn K (.ref C) a with
 |none=>rw [q] at b;injection b
 |some attr=>rw [q] at b;exact⟨c,bv attr rfl b⟩
theorem wV{K:Frag}(h:vP K C f=true):findIn K (.ref C) "__init__"=some (some<|.ref f)/\typeIn K (.ref f)=some (.type "function"):=eS h λa b=>⟨Ql a,Ql b⟩
section
variable {K:Frag} (T:KF K)
include T
theorem adf:∀c C a,mC c=some C->gX a bE=true->(plainGet K C a=true∨aeW K C)/\hasDictIn K C=true/\∃attr,findIn K (.ref C) a=some attr/\noGet K attr=true:=λc C a h d=>
 (wU h).elim (λh=>eS (Qx.mp (Qx.mp T.Ai C h) a<|ig d) λe f=>⟨.inl e,qK f⟩)
  λh=>eS (Qx.mp T.Ab C h.1) λb g=>eS b λi b=>eS b λj k=>⟨.inr ⟨Ql i,Ql j,Ql k⟩,qK<|Qx.mp g a<|ig d⟩
theorem adg:∀c C a,mC c=some C->jq c=true->gX a bE=true->findIn K (.ref C) "__setattr__"=some (some<|.builtin "object.__setattr__")/\plainOver K C=true/\takerIn K C a=some none:=λc C a h b d=>
 (wU h).elim (λh=>eS (Qx.mp (Qx.mp T.Aj C h) a<|ig d) λe q=>eS q λf g=>⟨Ql e,f,Ql g⟩) λh=>by rw [h.2] at b;injection b
theorem agj(i:Nat):keepIn K (jh i)=true:=by
 refine Qx.mp T.Aa _<|.tail _<|.tail _ ?_
 cases q:gvL[i]? with
 |none=>exact Zp (i:=0) rfl
 |some a=>exact Zp q
theorem abA(i:Nat)(fd:FD)(h:jQ i=some fd):∃f,jh i=.ref f/\ahq K f fd:=by
 unfold jQ at h;haveI e:(gvL.map<|aly K)[i]?=(qE.map<|Option.map λfd=>(fd,some fd.Ab))[i]?:=by exact af T.Ag rfl
 rw [QD,QD] at e
 cases q:qE[i]? with
 |none=>rw [q] at h;exact ar h
 |some o=>
  rw [q] at h e;obtain rfl:o=some fd:=h
  cases a:gvL[i]? with
  |none=>rw [a] at e;exact ar e
  |some f=>rw [a] at e;exact bv f (by unfold jh;exact af a rfl)<|agh<|Qb e
theorem agk(i:Nat)(p:Nat×Str)(fd:FD)(h:oh i=some p)(h':jQ p.1=some fd):∃C,jh i=.ref C/\acY K mC p.2 C fd:=by
 have key:∀j C f x,jh j=.ref f->mC x=some C->(C,f)∈[(236,233),(271,268),(336,333),(441,438)]->jQ j=some fd->acY K mC x C fd:=λj C f x o r s t=>by
  have q:=Qx.mp T.Ah _ s;rw [ZH] at q;refine aP (wV q.2) λa b=>aT (abA T j fd t) λu m G=>?_;rw [o] at m;haveI c:=Value.ref.inj m;subst c;exact⟨r,q.1,f,a,b,G⟩
 unfold oh at h
 by_cases d:i<61
 ·rw [Qh d] at h;exact ar h
 rw [Qe d] at h;obtain⟨n,rfl⟩:∃n,i=n+61:=⟨i - 61,(Nat.sub_add_cancel<|QW d).symm⟩;rw [Nat.add_sub_cancel] at h;rcases n with _|_|_|_|n
 ·haveI e:=Qb h;subst e;exact bv 236 rfl<|key 66 _ 233 _ rfl (by kernel_rfl) dd h'
 ·haveI g:=Qb h;subst g;exact bv 271 rfl<|key 67 _ 268 _ rfl (by kernel_rfl) dd h'
 ·haveI k:=Qb h;subst k;exact bv 336 rfl<|key 68 _ 333 _ rfl (by kernel_rfl) dd h'
 ·haveI l:=Qb h;subst l;exact bv 441 rfl<|key 69 _ 438 _ rfl (by kernel_rfl) dd h'
 ·exact ar h
theorem amb:WF K 28:=by
 haveI h:=T.wf;refine bo h λd a h=>bo h λds b h=>dP h λc h=>dP h λe h=>?_;haveI f:lW d=some wfB:=by haveI:=T.wb;rw [a] at this;exact this
 refine aP (Prod.mk.inj<|Qb h) λg i=>?_;subst i;exact cz d (aeV a f b c) g e
theorem aiG(h:K.lookup C=some (aiF K C))(d:C∈[44,56]):rS K C:=
 eS (Qx.mp T.Ac C d) λe q=>eS q λf q=>eS q λg q=>eS q λa b=>
  ⟨⟨λ_ k=>k _ _ _ _ _ _ _ _ _ _ _ _ _ _ _ h (by decide+kernel) (by decide+kernel) (by decide+kernel) (by decide+kernel) (by decide+kernel) λc=>by(refine af (refuseLoop_ref ..)<|af (refuseLoop_ref ..) ?_);exact PySem.F.store_Exception.passes c,
   Ql e,Ql f,Ql g⟩,cz 28 (Ql a) (Ql b)<|amb T⟩
theorem xat(h:K.lookup C=some (aiF K C))(a:C∈[44,56]):wK K C:=
 ⟨λ_ k=>k _ _ _ _ _ _ _ _ _ _ _ _ _ _ _ h (by decide+kernel) (by decide+kernel) (by decide+kernel)<|by decide+kernel,Qx.mp T.Aa C (by rcases Qz.mp a with rfl|h;exact .head _;exact af (QM.mp h)<|.tail _<|.head _)⟩
section
variable {h:Heap} {mg mb:Str->Option Value}
theorem rW(X:Frag.In K h)(G:h.Ns mainGlobals mg)(e:(x,a)∈(Str.ofString "Misused",44)::(Str.ofString "BadPacket",56)::aA.zip gvL):mg x=some (.ref a):=by
 exact mg_of X G<|Ql<|Qx.mp T.Ad _ e
theorem abB(X:Frag.In K h)(G:h.Ns mainGlobals mg)(x:Str)(i:Nat)(e:Mine.iu x aA 0=some i):mg x=some (jh i):=by
 refine aT (qG e) λj b c=>?_;rw [Nat.zero_add] at b;subst b;haveI f:i<aA.length:=(Qg.mp c).1;haveI g:aA.length=66:=by decide+kernel
 obtain⟨a,d⟩:∃a,gvL[i]?=some a:=⟨_,Qw (show i<gvL.length from by exact af (show gvL.length=70 from rfl)<|Qr ‹_› lb)⟩;exact af (show jh i=.ref a from by unfold jh;rw [d];rfl)<|rW T X G<|.tail _<|.tail _<|aeS c d
theorem aeX(X:Frag.In K h)(G:h.Ns mainGlobals mg)(x:Str)(e:x∈Str.ofString "Exception"::eP):mg x=none:=by
 exact mg_none_of X G<|Ql<|Qx.mp T.Ak x e
end
section
variable {U:Program} {w:World} {hz:B0} {mg mb:Str->Option Value} {A:Around}
theorem aiH(X:Frag.In K hz.toHeap)(g:hz.Ns mainGlobals mg)(a:gX k bF=true):∃C,mC k=some C/\mg k=some (.ref C)/\wK K C/\rS K C:=by
 rcases Qz.mp (ig a) with rfl|a
 ·exact pZ 44 (by kernel_rfl) (rW T X g<|.head _) (xat T T.Ae dd)<|aiG T T.Ae dd
 ·exact af (QM.mp a)<|pZ 56 (by kernel_rfl) (rW T X g<|.tail _<|.head _) (xat T T.Af dd)<|aiG T T.Af dd
theorem adh(X:Frag.In K hz.toHeap)(g:hz.Ns mainGlobals mg)(j:mb "Exception"=some (.type "Exception")):afW U w jh mC K mg mb jQ oh where
 fn:=abA T
 Ac:=agk T
 xc:=λk e=>zc (aiH T X g e) λC a b c _=>cz C a b c
 Aa:=λn hz L A env X=>age X.hh X.D.Ab
 Ab:=λn f L A env l=>adb l (λk C e m=>by
  refine zc (aiH T X g e) λo a _ _ d=>?_;rw [m] at a;haveI i:=Qb a;subst i;exact d) (aeX T X g "Exception"<|.head _) j _ _
theorem amc(X:Frag.In K hz.toHeap)(g:hz.Ns mainGlobals mg)(b:hz.Ns builtinsNs mb)(a:∀x:Str,x≠"__name__"->mb x=bootBuiltins x)(hs:(hz.get? sysModules).isSome=true)(c:A.units+80<cLine):Wd jh mC K mg mb hz A where
 Ac:=λi=>⟨_,rfl⟩
 Ab:=hs
 Aa:=c
 X:=X
 Af:=adf T
 Ah:=adg T
 g:=g
 b:=b
 Ad:=λx i e=>abB T X g x i e
 Ag:=λx e=>⟨aeX T X g x<|.tail _<|ig e,a x λz=>by subst z;revert e;decide+kernel⟩
 Ae:=agj T
end
end
end
end Mine
end
section
open PySem PySem.W PyProof.Rows PySem.Calls
namespace Mine
section
section
variable {U:Program} {w:World} {J:Nat->Value} {Y:Str->Option Addr} {hz:B0} {h h':Heap} {ρ ρ':List (Addr×Addr)} {H H':Hp} {L:Addr} {m:Str->Option Value} {σ:Nat->Nat} {n:Nat}
noncomputable def oV(σ:Nat->Nat)(n:Nat)(ρ:List (Addr×Addr)):List (Addr×Addr):=(List.range n).map λi=>(ρ[σ i]?).getD (0,0)
theorem vQ(a:i<n):(oV σ n ρ)[i]?=some ((ρ[σ i]?).getD (0,0)):=by
 unfold oV;refine af (QD) ?_;refine af (List.getElem?_range a) ?_;rfl
theorem wW:(oV σ n ρ).length=n:=by unfold oV;exact af (QU ..)<|af (List.length_range ..) rfl
theorem VR.Aq(b:v.J n=true)(r:VR J ρ h u (v.K σ)):VR J (oV σ n ρ) h u v:=
 V.rec (motive_1:=λv=>∀u,v.J n=true->VR J ρ h u (v.K σ)->VR J (oV σ n ρ) h u v) (motive_2:=λvs=>∀d,rX n vs=true->bN J ρ h d (adj σ vs)->bN J (oV σ n ρ) h d vs)
  (λ_ _ r=>VR.Ah r .Ai) (λ_ _ _ r=>VR.Ak r<|.Aj _) (λ_ _ _ r=>VR.Aa r λ_=>.Ac _ _) (λ_ _ _ r=>VR.Ae r λ_=>.Am _ _) (λ_ _ _ r=>VR.Ad r λ_=>.Af _ _)
  (λ_ f _ b r=>VR.Ag r λ_ _ a g=>.Ax a<|f _ b g) (λ_ _ _ r=>by cases r with|Av a=>exact .Av a)
  (λi _ b r=>VR.Ar r λp e=>.An<|by(refine af (vQ<|Ql b)<|af e ?_);rfl) (λ_ _ _ r=>VR.Ao r .As)
  (λ_ _ r=>bN.Ai r .Ad) (λ_ _ j k _ b r=>bN.Ag r λ_ _ a c=>.Ab (j _ (Qs.mp b).1 a)<|k _ (Qs.mp b).2 c) v u b r
theorem bN.Ap:∀{d:List Value},rX n vs=true->bN J ρ h d (adj σ vs)->bN J (oV σ n ρ) h d vs:=by
 induction vs with
 |nil=>exact λ_ r=>bN.Ai r .Ad
 |cons v vs e=>exact λb r=>bN.Ag r λ_ _ a c=>.Ab (VR.Aq (Qs.mp b).1 a)<|e (Qs.mp b).2 c
theorem nh.Af:∀{es:List DictEntry},tM n fs=true->nh J ρ h es (wX σ fs)->nh J (oV σ n ρ) h es fs:=by
 induction fs with
 |nil=>intro _ _ r;cases r;exact .Ab
 |cons p fs e=>
  intro _ b r
  cases r with|Aa a c d=>exact .Aa a (c.Aq (Qs.mp b).1)<|e (Qs.mp b).2 d
theorem gw.Al:∀{es:List (Str×Value)},tM n fs=true->gw J ρ h es (wX σ fs)->gw J (oV σ n ρ) h es fs:=by
 induction fs with
 |nil=>intro _ _ r;cases r;exact .Ae
 |cons p fs a=>
  intro _ b r
  cases r with|Ac c d=>exact .Ac (c.Aq (Qs.mp b).1)<|a (Qs.mp b).2 d
theorem fC.Ae(b:o.E n=true)(r:fC U w J Y ρ h p (o.F σ)):fC U w J Y (oV σ n ρ) h p o:=by
 cases o with
 |A l=>exact aP r λa r=>cM r λvs k e r=>⟨a,qc vs k e<|r.Ap b⟩
 |B l ep=>exact aP r λa r=>dN r λkvs e d k r=>⟨a,qe kvs e d k<|r.Al b⟩
 |D l=>exact r
 |C c fs=>exact acv r λC f es k g i j q s t r=>ahj C f es k g i j q s t<|r.Af b
theorem Sub.at(S:Sub n σ H H')(F:FS U w J Y hz L m ρ H' h)(e:(oV σ H.length ρ)[i]?=some p):i<H.length/\ρ[σ i]?=some p:=by
 have a:i<H.length:=by haveI:=(Qg.mp e).1;rwa [wW] at this
 refine⟨a,?_⟩;refine aP (S.Aa i _<|Qw a) λq _=>?_;haveI b:σ i<ρ.length:=by exact af F.st.Ab<|(Qg.mp q).1
 rw [vQ a,Qw b] at e;refine af (Qw b) ?_;exact e
theorem FS.Ap(S:Sub n σ H H')(F:FS U w J Y hz L m ρ H' h):FS U w J Y hz L m (oV σ H.length ρ) H h:=by
 have r:∀p∈oV σ H.length ρ,p∈ρ:=λp g=>by
  exact bC (kB g) λi e=>bw (S.at F e).2
 refine⟨⟨F.st.Aa,wW,λi o p k l=>?_,λi j p q k l x=>?_,λp g=>F.st.Ad p<|r p g⟩,F.ns,λp g=>F.nL p<|r p g,F.Aa,λf s=>?_⟩
 ·exact aP (S.Aa i o k) λa b=>(F.st.Ac _ _ p a (S.at F l).2).Ae b
 ·exact S.inj i j (S.at F k).1 (S.at F l).1<|F.st.inj _ _ p q (S.at F k).2 (S.at F l).2 x
 ·exact gF (F.Ac f s) λa b c d=>⟨a,b,c,λp g=>d p<|r p g⟩
theorem Mv.Af(S:Sub ρ.length σ H H')(F:FS U w J Y hz L m ρ' H' h)(M:Mv L ρ d ρ' h):Mv L ρ d (oV σ H.length ρ') h:=by
 refine aT M.Ab λt f g=>?_;subst f;refine⟨M.kp,(oV σ H.length<|ρ++t).drop ρ.length,?_,λp j=>?_⟩
 ·refine List.ext_getElem? λi=>?_
  by_cases c:i<ρ.length
  ·refine af (Qj c) ?_;refine af (vQ<|Qr c S.Ab)<|af (S.Ac i c)<|af (Qj c) ?_;refine af (Qw c) ?_;rfl
  ·refine af (QE<|QW c) ?_;refine af (List.getElem?_drop) ?_;exact af (Nat.add_sub_cancel'<|QW c) rfl
 ·refine bC (kB j) λi e=>?_;rw [List.getElem?_drop] at e;refine aP (S.at F e) λa b=>?_;haveI hs:¬σ (ρ.length+i)<ρ.length:=λq=>by
   haveI:=S.inj _ _ a (Qr q S.Ab) (S.Ac _ q).symm;rw [←this] at q;exact absurd q<|QH.mpr<|Qq _ _
  rw [QE<|QW hs] at b;exact g p<|bw b
end
end
section
section
variable {U:Program} {w:World} {J:Nat->Value} {Y:Str->Option Addr} {hz:B0} {env:Env} {h:Heap} {ρ:List (Addr×Addr)} {H:Hp} {L:Addr} {m mg mb:Str->Option Value} {A:Around} {N:Heap->Heap->Addr->Str->Str->Prop} {s:Shared} {K:Frag} {c c':CF} {n:Nat}
theorem VR.Az(r:VR J ρ h u v):v.J ρ.length=true:=
 @VR.rec J ρ h (λ_ v _=>v.J ρ.length=true) (λ_ vs _=>rX ρ.length vs=true) rfl (λ_=>rfl) (λ_ _=>rfl) (λ_ _=>rfl) (λ_ _=>rfl) (λ_ _ r=>r) (λ_=>rfl) (λe=>QY (Qg.mp e).1) rfl rfl (λ_ _ a b=>Qs.mpr ⟨a,b⟩) u v r
theorem bN.Ar(r:bN J ρ h d vs):rX ρ.length vs=true:=bN.Ae r rfl λa _ b=>Qs.mpr ⟨a.Az,b⟩
theorem nh.Ah(r:nh J ρ h es fs):tM ρ.length fs=true:=
 @nh.rec J ρ h (λ_ fs _=>tM ρ.length fs=true) rfl (λ_ a _ r=>Qs.mpr ⟨a.Az,r⟩) es fs r
theorem gw.Ap(r:gw J ρ h es fs):tM ρ.length fs=true:=
 @gw.rec J ρ h (λ_ fs _=>tM ρ.length fs=true) rfl (λa _ r=>Qs.mpr ⟨a.Az,r⟩) es fs r
theorem fC.Ag(r:fC U w J Y ρ h p o):o.E ρ.length=true:=by
 cases o with
 |A l=>exact aP r λ_ r=>cM r λ_ _ _ r=>r.Ar
 |B l ep=>exact aP r λ_ r=>dN r λ_ _ _ _ r=>r.Ap
 |D l=>rfl
 |C c fs=>exact acv r λ_ _ _ _ _ _ _ _ _ _ r=>r.Ah
theorem FS.wf(F:FS U w J Y hz L m ρ H h):WfH H:=λi o e=>by
 refine aT (F.at e) λp a R=>?_;rw [←F.st.Ab];exact R.Ag
theorem ai.Aw(Z:FS U w J Y hz L m ρ H s.heap)(g:ai U w J Y hz L m A N ρ s (du J) t l)(T:wY H.length r l):ai U w J Y hz L m A N ρ s (du J) t r:=by
 rcases T with rfl|T
 ·exact g
 intro Q E e;refine g Q E ?_;have j:=Z.st.Ab
 cases r with
 |Ab=>exact e.elim
 |ok v H1=>
  refine dN T λo q u S b=>?_;clear T;subst u;intro f h' tk a d M r;rw [←j] at S;exact e _ h' tk a (d.Ap S) (M.Af S d)<|VR.Aq b r
 |Ac k x H1=>
  refine cM T λo q z S=>?_;clear T;subst z;intro f B h' tk a d M C D y;rw [←j] at S;exact e _ B h' tk a (d.Ap S) (M.Af S d) (λp F=>by
   exact bC (kB F) λi e=>C p<|bw (S.at d e).2) D y
theorem amd(T:afW U w J Y K mg mb jQ oh)(l:∀hz L A env,Cx J Y K mg mb n hz L A env->tj U w J Y hz L A (mS J Y hz L) c)
 (o:∀x args H,WfH H->rX H.length args=true->wY H.length (c' x args H) (aM c x args H))(X:Cx J Y K mg mb (n+2) hz L A env):tj U w J Y hz L A (mS J Y hz L) c':=by
 intro x args vs H ρ s m Z i;refine ai.Aw Z ?_<|o x args H Z.wf (by have:=i.Ar;rwa [Z.st.Ab] at this);have b:∀a L' g d,Cx J Y K mg mb n a L' g d->wu U w J Y K mg mb a L' g (mS J Y a L') c/\li U w J Y a L' g:=λa L' g d e=>
  ⟨⟨e.D,l _ _ _ _ e,tB e.hh<|T.Aa _ _ _ _ _ e,wy e.D.Ab⟩,T.Ab _ _ _ _ _ e⟩
 unfold aM
 cases q:jQ x with
 |some fd=>exact aT (T.fn _ _ q) λf j G=>by rw [j];exact abv X.Ad G T.xc b Z i
 |none=>exact ai.Ag λp r=>ai.Ag λfd k=>aT (T.Ac _ _ _ r k) λC j G=>by rw [j];exact acZ X G T.xc b Z i
set_option tactic.hygienic true in
theorem eK.ok(T:afW U w J Y K mg mb jQ oh)(y:eK n c):∀hz L A env,Cx J Y K mg mb n hz L A env->tj U w J Y hz L A (mS J Y hz L) c:=by
 induction y with
 |Ab=>exact λhz L A env X x args vs H ρ s m Z a Q E j=>j.elim
 |Aa y k b=>
  rename_i n c i f
  intro hz L A env X x args vs H ρ s m Z a;unfold CF.Aa
  by_cases d:x=i
  ·subst d;rw [Qh rfl];have q:=amd (c':=λy as=>if y=x then f as else aM c y as) T b (λy as H l o=>by
    by_cases g:y=x
    ·subst g;rw [Qh rfl];exact k as H l o
    ·rw [Qe g];exact tN) X x args vs H ρ s m Z a
   have e:(if x=x then f args else aM c x args)=f args:=Qh rfl;exact e ▸q
  ·rw [Qe d];exact b _ _ _ _ X.Ad.Ad x args vs H ρ s m Z a
end
end
section
section
variable {K:Frag} {U:Program} {w:World} {s:Shared} {mg mb:Str->Option Value} {la:Addr} {vs:List Value} {xs:List V} {E:Value->Shared->Prop}
theorem aal(T:KF K)(X:Frag.In K s.heap)(g:s.heap.Ns mainGlobals mg)(b:s.heap.Ns builtinsNs mb)(hb:∀x:Str,x≠"__name__"->mb x=bootBuiltins x)(D:s.heap.NoLimit)(R:(s.heap.get? sysModules).isSome=true)
 (hl:s.heap.IsList la vs.toArray)(hr:∀h,bN jh [] h vs xs)(hn:xs.length<=63)(hy:eK k c)(d5:k<=150)
 (Y:au (c) cF.Aa.tail (Lc.Aa (λ_=>none) 0<|.B 0) [.A xs]=.ok (.Ab<|.E true,l') H'):
 dz (model U w) callerA (call (.ref 585) [.ref la]) (λv s'=>v=.bool true/\∃h' tk,s'={s with heap:=h',toks:=tk}/\∀b o,s.heap.get? b=some o->h'.get? b=some o) E s:=by
 haveI a8:mb "Exception"=some (.type "Exception"):=(hb _<|by decide+kernel).trans (by kernel_rfl);refine aT (abA T 60 cF rfl) λf e0 G=>?_;obtain rfl:f=585:=by haveI z1:=Value.ref.inj e0;subst z1;rfl
 refine G _ λd body ds W z a9 d9=>?_;haveI l:=W.Ac;refine gx (oP z) λ(Z:d.params.args.map (·.arg)=(lU d.scope.names).take d.params.args.length) _ t=>ze W.Ad λoc od e1 hK=>?_;have H:qr K 585=some d:=by unfold qr;exact af hK rfl
 have a0:aak K 585=body:=by unfold aak lW;refine af H ?_;show(FuncBody.casesOn (motive:=λ_=>Option<|List Stmt) d.body some λ_=>none).getD []=_;exact af W.Aa rfl
 have a1:tL K 585=d.scope:=by unfold tL;exact af H rfl
 haveI lb:=T.lb;haveI lc:=T.lc;haveI ls:=T.ls;haveI lw:=T.lw;rw [a1] at ls lw lc;rw [a0] at lb lc;clear a0 a1 H z;generalize b2:body.tail=rest at lb lc;subst lb;clear b2;obtain rfl:ds=[]:=by
  haveI q:=(qF (J:=jh) (ρ:=[]) (h:=s.heap) a9).Aa;exact List.length_eq_zero_iff.mp q
 haveI t:d.params.args.length=1:=t.symm;have I:callerA.depth<recursionLimit:=by decide+kernel
 refine kn<|gG (fdt:=d) (body:=rV::rest) I (X _ _ hK) rfl l.co l.Ac W.Aa (codeRec_of X W.Ab) ?_;haveI u:BindsTo s d ⟨[.ref la],[]⟩ ((d.params.args.map (·.arg)).zip<|[.ref la]++([]:List Value).drop (([]:List Value).length - (d.params.args.length - ([.ref la]:List Value).length))):=by
  rcases W.Ae with ⟨q, -⟩|⟨TT,o,n',q,hT,b3⟩
  ·exact je (od:=none) l.p1 l.p2 l.p3 l.p4 (λM A E Q P=>by exact af q<|Qp P) rfl l.nd (Qk t.symm) (Qk t)<|QO _
  ·exact je (od:=some #[]) l.p1 l.p2 l.p3 l.p4 (λM A E Q P=>by exact af q<|wpAny_seqItems (X _ _ hT) b3 P) rfl l.nd (Qk t.symm) (Qk t)<|QO _
 have B:(lU d.scope.names)[0]?=some (Str.ofString "script"):=wQ ls;have a2:d.params.args.map (·.arg)=[Str.ofString "script"]:=by
  refine af Z<|af t ?_
  cases q:lU d.scope.names with
  |nil=>rw [q] at B;exact ar B
  |cons a r=>rw [q] at B;injection B with z3;subst z3;rfl
 rw [a2,List.drop_nil] at u;refine u _ _ _ _<|wpAny_newFunctionEnv l.Ab (λx hx=>l.Ad _ ?_) (λh1 b4 a4=>⟨D.fresh _ a4,qH ?_⟩) l.Aa
 ·refine af a2 ?_;obtain rfl:=QM.mp hx;exact .head _
 have hk:∀b o,s.heap.get? b=some o->h1.get? b=some o:=λb o e=>a4.extBut b o (QC<|QP e)<|Qu _ e;generalize C:newEnv d.scope s.heap.objs.size d.globals d.closure (d.qualname++".<locals>.") (some 585) d.code none d.builtins=m;have hE:gJ d.scope m s.heap.objs.size:=by subst C;exact⟨rfl,l.Aa,rfl,W.gl,W.bl⟩
 have b6:m.frame=some s.heap.objs.size:=by subst C;rfl
 clear C u B Z;haveI F:Cx jh mC K mg mb k ⟨s.heap,[]⟩ s.heap.objs.size (callerA.deeper m) m:=by
  refine⟨rfl,amc T X g b hb R<|by refine af (Around.deeper_units ..) ?_;decide+kernel,⟨cz ([]) rfl (λe he=>?_) rfl,b6⟩,D,by show callerA.depth+1+3*k+20<=recursionLimit;haveI:callerA.depth+1+3*150+20<=recursionLimit:=(by decide+kernel);lia,by refine af (Around.deeper_units ..) ?_;haveI:callerA.units+3+20*150+200<cLine:=(by decide+kernel);lia⟩;obtain rfl:=QM.mp he;refine af hE.Aa<|af l.Aa ?_;nofun
 haveI F':=adh (U:=U) (w:=w) (hz:=⟨s.heap,[]⟩) T X g a8;haveI b7:=abr (aeQ ⟨F.D,hy.ok F' _ _ _ _ F,tB F.hh<|F'.Aa _ _ _ _ _ F,wy F.D.Ab⟩ F.hh F.F hE F'.xc (F'.Ab _ _ _ _ _ F) l.Ae 199) lc;haveI Z1:FS U w jh mC ⟨s.heap,[]⟩ s.heap.objs.size _ [] [] h1:=⟨⟨hk,rfl,λi o p e _=>ar<|List.getElem?_nil.symm.trans e,λi j p q e=>ar<|List.getElem?_nil.symm.trans e,λp hp=>(nomatch hp)⟩,b4,λp hp=>(nomatch hp),Qd _,λf hf=>(nomatch hf)⟩;refine eI hl λo ho c0 z4=>?_;clear hl;refine bC z4 λn c1=>?_;clear z4;haveI c2:h1.IsList la vs.toArray:=cz o (hk _ _ ho) c0 ⟨n,c1⟩;haveI hm:(λy=>([Str.ofString "script"].zip<|[Value.ref la]++[]).reverse.lookup y:Str->Option Value) "script"=some (.ref la):=by kernel_rfl
 haveI st:=ade (U:=U) (w:=w) (N:=mS jh mC ⟨s.heap,[]⟩ s.heap.objs.size) (A:=callerA.deeper m) (s:={s with heap:=h1,toks:=s.toks+1}) (pos:=⟨511,4,511,24⟩) hE ls lw Z1 hm c2 (hr h1) hn;refine af (arm_execs_cons ..)<|aF.Ae (g:=λq H1=>au (c) cF.Aa.tail q.2 H1) (R':=SR jh d.scope) st (λq H1 eq m' a5 h' tk fl Z' M P=>?_) _ _ ?_
 ·injection eq with z5 z6;subst z5;subst z6;refine aP P λhf c4=>?_;clear P
  cases hf
  exact b7 {s with heap:=h',toks:=tk} a5 _ m' _ Z' c4
 ·show eG _ _ _ _ _ _ _ _ _ _ (au (c) cF.Aa.tail (Lc.Aa (λ_=>none) 0<|.B 0) [.A xs]) _ _;refine af Y ?_;intro m' a5 h' tk fa Z' M L;refine aP L λL _=>?_
  cases L with
  |Ab r=>exact VR.Ak r<|⟨rfl,h',tk,rfl,Z'.st.Aa⟩
end
end
theorem agl(h:PySem.Challenge.rw_pq1098_01.row.toRowW.claim.pre args=true):∃ns:List Int,args=[.list<|ns.map .int]/\ns.length<=63:=by
 refine aP (pre_splitW h) λe f=>dN (hasAllW_cons (e:=.list .int) (es:=[]) e) λd r g a b=>?_;subst g;obtain rfl:=hasAllW_nil b;refine aT (hasW_list a) λxs i j=>?_;subst i;refine bC (items_int j) λns k=>?_;subst k;refine bv ns rfl ?_;have q:∀c:Bool,(WTm.and (.not<|.lit<|.bool c)<|.lit<|.bool true).holds [] {args:=[.list<|ns.map .int]}=true->c=false:=λc h=>by
  cases c with|false=>rfl|true=>injection h
 have:=of_decide_eq_false<|q (decide ((63:Int)< ↑(List.map WData.int ns).length))<|(show(WTm.and (.not<|.lit<|.bool (decide ((63:Int)< ↑(List.map WData.int ns).length)))<|.lit<|.bool true).holds [] {args:=[.list<|ns.map .int]}=(WTm.and (.not<|.lt (.lit<|.int 63)<|.len<|.arg 0)<|.lit<|.bool true).holds [] {args:=[.list<|ns.map .int]} from by kernel_rfl).trans f;rw [QU] at this;lia
theorem adi{ns:List Int}:∀{vs:List Value} {as:List Addr},ReadsAllW R d h vs (ns.map .int) as->∀h',bN jh [] h' vs (ns.map .A):=by
 induction ns with
 |nil=>intro _ _ r h';cases r;exact .Ad
 |cons n ns c=>
  intro _ _ r h'
  cases r with
  |cons a b=>cases a;exact .Ab (.Ac _ _)<|c b h'
set_option tactic.hygienic true in
theorem walk_of{K:Params->Frag}{e:∀P,as=(K P).map (·.1)}(hK:∀pm,KF<|K pm)(hq:importsNone q=true)(hy:eK k c)(hk:k<=150)(law:∀ns:List Int,ns.length<=63->∃l' H',au c cF.Aa.tail (Lc.Aa (λ_=>none) 0<|.B 0) [.A<|ns.map .A]=.ok (.Ab<|.E true,l') H'):
 aiB q loose (XL q []) (kHook K as e).says PySem.Challenge.rw_pq1098_01.row.toRowW:=by
 intro w s₀ s₁ mg mb G Y hg args vs ad hpre hrd;have X:(K w.params).In s₁.heap:=kIn_of Y;refine aT (agl hpre) λns z4 hn=>?_;subst z4;have T:=hK w.params;refine aT ((G.T.seer hq).mods) λmm hmm _=>?_;have hsys:(s₁.heap.get? sysModules).isSome=true:=by
  refine oq hmm λo _ _ ho _=>?_;clear hmm;rw [ho];rfl
 refine bv (.ref 585) (abB T X G.T.g _ 60<|by kernel_rfl) ?_
 cases hrd with
 |cons r1 r2=>
  cases r2
  cases r1 with
  |list ho hc hd hi=>
   rename_i o us n bs
   refine ip (law ns hn) λl' H' hrun=>dg (aal T X G.T.g G.T.b G.T.builtins G.T.nolimit hsys (cz o ho hc ⟨n,by rw [hd]⟩) (adi hi) (by rw [QU];exact hn) hy hk hrun) (λv s' hv=>?_)<|λe s' he=>he;refine aP hv λz5 z6=>?_;clear hv;subst z5;refine cM z6 λh' tk z7 kp=>?_;clear z6;subst z7;exact⟨.inl<|⟨_,.bool true,[],rfl,λ_=>rfl,.bool true,by kernel_rfl,λ_=>⟨.nil,λa ha=>nomatch ha⟩⟩,.of_keep kp,rfl,.of_eq hg⟩
end Mine
end
section
open PySem PySem.W
namespace Mine
theorem tP(x y:Nat):Builtin.bitOr x y=((x|||y:Nat):Int):=by
 unfold Builtin.bitOr;refine af (kbt_not ..)<|af (kbt_not ..)<|af (kbt_not ..) ?_;unfold Builtin.bitAnd;haveI a:decide ((0:Int)<= -(x:Int) - 1)=false:=QT (by lia);haveI b:decide ((0:Int)<= -(y:Int) - 1)=false:=QT (by lia);refine af a<|af b ?_;simp only [kbt_not];refine af (show -(-(x:Int) - 1) - 1=x from by lia)<|af (show -(-(y:Int) - 1) - 1=y from by lia) ?_;simp only [Int.toNat_natCast];lia
theorem uT(n:Nat)(x:UInt8):Builtin.bitOr ((n:Int)*2^8) (x.toNat:Int)=((n*256+x.toNat:Nat):Int):=by
 rw [show(n:Int)*2^8=((n*2^8:Nat):Int) from by simp,tP];haveI a:x.toNat<2^8:=x.toNat_lt;exact af (Nat.mul_comm n ..)<|cI (Nat.two_pow_add_eq_or_of_lt a ..)<|af (Nat.mul_comm ..) rfl
noncomputable def aQ(b:List UInt8):Nat:=b.foldl (λn x=>n*256+x.toNat) 0
theorem rY(b:List UInt8):aQ b<2^(8*b.length):=by
 unfold aQ;haveI:∀(b:List UInt8) (n k:Nat),n<2^k->b.foldl (λn x=>n*256+x.toNat) n<2^(k+8*b.length):=by
  intro b
  induction b with
  |nil=>intro n k h;exact h
  |cons x b a=>
   intro n k h;haveI:=a (n*256+x.toNat) (k+8) (by haveI:=x.toNat_lt;exact af (Nat.pow_add ..)<|Qr (Nat.add_lt_add_left this _)<|Qa (Qk (Nat.succ_mul n<|2^8).symm)<|Nat.mul_le_mul_right _ h);exact af QG<|af (show k+8*(b.length+1)=k+8+8*b.length from by lia) this
 simpa using this b 0 0 lb
theorem rb{r:bJ b}(h:r=.ok a H)(k:f a H=x):r.Aa f=x:=by subst h;exact k
theorem adm(h:m H=.ok a H'):zC m H=.ok a H':=by unfold zC;rw [h]
theorem gR{step:Lc->AM (Fl×Lc)}(P:Nat->Lc->Hp->Prop)(item:Nat->V)
 (hs:∀k l H,k<n->P k l H->src k H=.ok (some<|item k) H/\∃f H1 d e,jc c t (item k) l H=.ok f H1/\step f H1=.ok (.Aa,d) e/\P (k+1) d e)
 (j:∀l H,P n l H->src n H=.ok none H):∀a k l H,k<=n->n - k<a->P k l H->∃l' H',jK c t src step a k l H=.ok (.Aa,l') H'/\P n l' H':=by
 intro a
 induction a with
 |zero=>intro k l H _ h;exact absurd h<|Nat.not_lt_zero _
 |succ a m=>
  intro k l H o p g
  by_cases h:k=n
  ·subst h;exact qc l H (rb (j l H g) rfl) g
  ·have b:=Nat.lt_of_le_of_ne o h;exact aP (hs k l H b g) λr s=>kg s λf H1 d e u=>gx u λv w i=>cM (m (k+1) d e b (afA p b) i) λl' H' x q=>qc l' H' (rb r<|rb v<|rb w x) q
section
section
variable {c:CF} {l l' l'':Lc} {H H1 H2 H3 H4:Hp} {v x y z:V} {a b e t o i:X} {es r:List X} {op:Operator} {n:Str} {k:Bool}
theorem aa(h:l j=some v):ak c (.A j) l H=.ok v H:=by show cs (l j) AM.Ab H=_;rw [h];rfl
theorem aq(d:ak c a l H=.ok x H1)(f:ak c b l H1=.ok y H2)(g:mq op x y H2=.ok v H3):ak c (.E op a b) l H=.ok v H3:=rb d<|rb f g
theorem jL(d:ak c a l H=.ok (.A j) H1):ak c (.T a) l H=.ok (.A<|-j) H1:=rb d rfl
theorem jT(d:ak c a l H=.ok x H1)(f:kh x s H1=.ok v H2):ak c (.L a s) l H=.ok v H2:=rb d f
theorem aJ(d:ak c a l H=.ok x H1)(f:ak c b l H1=.ok y H2)(g:nZ x y H2=.ok v H3):ak c (.H a b) l H=.ok v H3:=rb d<|rb f g
theorem dX(d:ak c a l H=.ok x H1)(f:ak c b l H1=.ok y H2)(g:ak c e l H2=.ok z H3)(h:kj x y z H3=.ok v H4):ak c (.N a b e) l H=.ok v H4:=rb d<|rb f<|rb g h
theorem ia{op:CmpOp}(d:ak c a l H=.ok x H1)(f:ak c b l H1=.ok y H2)(g:eO op x y H2=.ok v H3):ak c (.I op a b) l H=.ok v H3:=rb d<|rb f g
theorem aiX(k:Bool)(d:bj c t l H=.ok k H1)(f:(if k then ak c a l H1 else ak c b l H1)=rr):ak c (.O t a b) l H=rr:=by
 show(bj c t l H).Aa _=_;refine af d ?_;exact(show(if k=true then ak c a l else ak c b l) H1=rr from by cases k<;>exact f)
theorem cf(d:bj c t l H=.ok true H1)(f:ak c a l H1=rr):ak c (.O t a b) l H=rr:=aiX true d f
theorem ci(d:bj c t l H=.ok false H1)(f:ak c b l H1=rr):ak c (.O t a b) l H=rr:=aiX false d f
theorem aj:bK c [] l H=.ok [] H:=rfl
theorem ae(d:ak c a l H=.ok x H1)(f:bK c es l H1=.ok vs H2):bK c (a::es) l H=.ok (x::vs) H2:=rb d<|rb f rfl
theorem bf(h:bK c es l H=.ok vs H1):ak c (.D es) l H=.ok (.F vs) H1:=rb h rfl
theorem cV(h:bK c es l H=.ok vs H1):ak c (.M es) l H=.ok (.B H1.length) (H1++[.A vs]):=rb h rfl
theorem av(d:bK c es l H=.ok vs H1)(f:c g vs H1=rr):ak c (.G (.F g) es) l H=rr:=rb d f
theorem bh(d:bK c es l H=.ok vs H1)(g:jb f vs H1=rr):ak c (.K f es) l H=rr:=rb d g
theorem nB(d:ak c o l H=.ok x H1)(g:wg x f H1=.ok () H1)(h:bK c es l H1=.ok vs H2)(j:we x f vs H2=rr):ak c (.R o f es) l H=rr:=rb d<|rb g<|rb h j
theorem am{op:CmpOp}(d:ak c a l H=.ok x H1)(f:ak c b l H1=.ok y H2)(g:eO op x y H2=.ok (.E k) H3):bj c (.I op a b) l H=.ok k H3:=rb d<|rb f<|rb g rfl
theorem abK(h:bj c a l H=.ok k H1):bj c (.U a) l H=.ok (!k) H1:=rb h rfl
theorem fL:bj c (.P d []) l H=.ok d H:=rfl
theorem bD(f:bj c a l H=.ok d H1)(g:bj c (.P d r) l H1=.ok k H2):bj c (.P d<|a::r) l H=.ok k H2:=by
 show(bj c a l H).Aa _=_;refine af f ?_;show(if d=d then ahk c d r l else AM.Ab d) H1=_;exact af (Qh rfl) g
theorem cu(f:bj c a l H=.ok (!d) H1):bj c (.P d<|a::r) l H=.ok (!d) H1:=by
 show(bj c a l H).Aa _=_;refine af f ?_;show(if(!d)=d then ahk c d r l else AM.Ab (!d)) H1=_;exact af (Qe<|by cases d<;>decide) rfl
theorem agy(d:ak c a l H=.ok x H1)(f:ak c b l H1=.ok y H2)(g:nZ x y H2=.ok (.E k) H3):bj c (.H a b) l H=.ok k H3:=rb (rb d<|rb f g) rfl
theorem tY(h:l j=some (.E k)):bj c (.A j) l H=.ok k H:=by show cs (l j) di H=_;exact af h rfl
theorem sv(d:bK c es l H=.ok vs H1)(f:c g vs H1=.ok (.E k) H2):bj c (.G (.F g) es) l H=.ok k H2:=rb (r:=ak c (.G (.F g) es) l H) (av d f) rfl
variable {s:S} {ss sa sb:List S} {fl:Fl} {tt:T} {rr:bJ (Fl×Lc)}
theorem aV:au c [] l H=.ok (.Aa,l) H:=rfl
theorem ah(d:aN c s l H=.ok (.Aa,l') H1)(f:au c ss l' H1=rr):au c (s::ss) l H=rr:=rb d f
theorem aI(d:ak c e l H=.ok v H1):au c (.B e::ss) l H=.ok (.Ab v,l) H1:=rb (rb d rfl) rfl
theorem bb(d:aN c s l H=.ok (.Ab v,l') H1):au c (s::ss) l H=.ok (.Ab v,l') H1:=rb d rfl
theorem aiY:au c (.I::ss) l H=.ok (.Ac,l) H:=rfl
theorem adC(d:aN c s l H=.ok (.Ac,l') H1):au c (s::ss) l H=.ok (.Ac,l') H1:=rb d rfl
theorem hW(d:aN c s l H=.Ac n w H1):au c (s::ss) l H=.Ac n w H1:=by show(aN c s l H).Aa _=_;rw [d];rfl
theorem cm(d:ak c e l H=.ok v H1)(f:jc c tt v l H1=.ok l' H2):aN c (.A tt e) l H=.ok (.Aa,l') H2:=rb d<|rb f rfl
theorem az(d:ak c e l H=.ok v H1):aN c (.A (.A j) e) l H=.ok (.Aa,l.Aa j v) H1:=rb d rfl
theorem xU(d:l j=some x)(f:ak c e l H=.ok y H1)(g:aic op x y H1=.ok z H2):aN c (.J j op e) l H=.ok (.Aa,l.Aa j z) H2:=by
 show cs (l j) _ H=_;refine af d ?_;show(ak c e l H).Aa _=_;refine af f ?_;show(aic op x y H1).Aa _=_;exact af g rfl
theorem jm(d:ak c e l H=.ok v H1):aN c (.D e) l H=.ok (.Aa,l) H1:=rb d rfl
theorem agz(k:Bool)(d:bj c t l H=.ok k H1)(f:(if k then au c sa l H1 else au c sb l H1)=rr):aN c (.C t sa sb) l H=rr:=by
 show(bj c t l H).Aa _=_;refine af d ?_;exact(show(if k=true then au c sa l else au c sb l) H1=rr from by cases k<;>exact f)
theorem aK(d:bj c t l H=.ok true H1)(f:au c sa l H1=rr):aN c (.C t sa sb) l H=rr:=agz true d f
theorem pS(d:bj c t l H=.ok false H1)(f:au c sb l H1=rr):aN c (.C t sa sb) l H=rr:=agz false d f
theorem aH(d:bj c t l H=.ok false H1):aN c (.C t sa []) l H=.ok (.Aa,l) H1:=agz false d rfl
theorem pb(d:ak c e l H=.ok (.D w) H1):aN c (.F n e) l H=.Ac n w H1:=rb d rfl
theorem eF(d:ak c e l H=.ok v H1)(f:jK c tt (lf v H1) (au c sb) 1001 0 l H1=.ok (fl,l') H2):aN c (.E tt e sb) l H=.ok (fl,l') H2:=adm (m:=AM.Aa (ak c e l)<|λv=>λH=>jK c tt (lf v H) (au c sb) 1001 0 l H)<|rb d f
theorem nE{_:Decidable p}{r:bJ d}(h:p)(k:m H=r):be p m H=r:=by rw [be,Qh h];exact k
theorem bL(h:0<q):mq .Mod (.A p) (.A q) H=.ok (.A<|p%q) H:=nE h rfl
theorem eY(h:0<q/\Builtin.Int.intBits q<=8000):mq .FloorDiv (.A p) (.A q) H=.ok (.A<|p/ q) H:=nE h rfl
theorem eX(h:IntMulOk p q):mq .Mult (.A p) (.A q) H=.ok (.A<|p*q) H:=nE h rfl
theorem tZ{q:Nat}(h:q<4096):mq .Pow (.A 2) (.A q) H=.ok (.A<|2^q) H:=nE (p:=(2:Int)=2/\0<=(q:Int)/\(q:Int)<4096) ⟨rfl,Zh _,Zf.mpr h⟩ rfl
theorem afd{q:Nat}(h:q<4096/\Builtin.Int.intBits p<=100000):mq .LShift (.A p) (.A q) H=.ok (.A<|p*2^q) H:=nE (p:=0<=(q:Int)/\(q:Int)<4096/\Builtin.Int.intBits p<=100000) ⟨Zh _,Zf.mpr h.1,h.2⟩ rfl
theorem pd{q:Nat}:mq .RShift (.A p) (.A q) H=.ok (.A<|p/ 2^q) H:=nE (p:=0<=(q:Int)) (Zh _) rfl
theorem hZ(h:decide (p<q)=k):eO .Lt (.A p) (.A q) H=.ok (.E k) H:=by subst h;rfl
theorem iN(h:decide (q<p)=k):eO .Gt (.A p) (.A q) H=.ok (.E k) H:=by subst h;rfl
theorem abL(h:decide (p<=q)=k):eO .LtE (.A p) (.A q) H=.ok (.E k) H:=by subst h;rfl
theorem dC(h:decide (p=q)=k):eO .Eq (.A p) (.A q) H=.ok (.E k) H:=by subst h;rfl
theorem qO(h:decide (p=q)=k):eO .NotEq (.A p) (.A q) H=.ok (.E<|!k) H:=by subst h;rfl
theorem dh{_:Decidable p}(h:p):decide p=true:=QY h
theorem cy{_:Decidable p}(h:¬p):decide p=false:=QT h
end
def oW(l:List V):Option V:=sC none some l
theorem gA(h:oW l=some a):l=[a]:=by
 cases l with
 |nil=>exact ar h
 |cons x l=>
  cases l with
  |nil=>haveI h:=Qb h;subst h;rfl
  |cons _ _=>exact ar h
def uU(l:List V):Option (V×V×V):=lC none (λa l=>lC none (λb l=>sC none (λc=>some (a,b,c)) l) l) l
theorem jY(h:uU l=some p):l=[p.1,p.2.1,p.2.2]:=by
 cases l with
 |nil=>exact ar h
 |cons x l=>
  cases l with
  |nil=>exact ar h
  |cons y l=>
   cases l with
   |nil=>exact ar h
   |cons z l=>
    cases l with
    |nil=>haveI h:=Qb h;subst h;rfl
    |cons _ _=>exact ar h
theorem adt{f:Type}[d:Decidable c]{o:Option f}{y:f}{G:Prop}(h:(if c then o else none)=some y)(k:c->o=some y->G):G:=by
 cases d with
 |isTrue q=>exact k q h
 |isFalse q=>exact ar h
def dq(v:V):Option Nat:=vC none v (int:=λi=>if 0<=i then some i.toNat else none)
theorem bQ(h:dq v=some n):v=.A n:=by
 cases v with
 |A i=>exact adt h λd h=>by haveI h:=Qb h;subst h;exact af (Int.toNat_of_nonneg d) rfl
 |_=>exact ar h
def iJ(o:O):Option (List UInt8):=oC none o (barr:=some)
theorem xV(h:iJ o=some l):o=.D l:=by
 cases o with
 |D _=>haveI h:=Qb h;subst h;rfl
 |_=>exact ar h
def bS(v:V)(H:Hp):Option (List UInt8):=vC none v (bytes:=some) (ref:=λi=>H[i]?.bind iJ)
theorem ib(h:bS v H=some l):v=.G l∨∃i:Nat,v=.B i/\H[i]?=some (.D l):=by
 cases v with
 |G _=>haveI h:=Qb h;subst h;exact .inl rfl
 |B i=>exact bo h λo e h=>.inr<|bv i rfl (by(exact af e<|af (xV h) rfl))
 |_=>exact ar h
def cU(f:List V->Hp->Option (bJ V)):List V->AM V:=λargs H=>(f args H).getD .Ab
def Ct(c:CF)(i:Nat)(f:List V->Hp->Option (bJ V)):Prop:=∀args H r,WfH H->rX H.length args=true->f args H=some r->wY H.length r (aM c i args H)
theorem eU{c:CF}(h:c i=cU f)(e:f args H=some r):c i args H=r:=by
 refine af h ?_;show(f args H).getD .Ab=r;exact af e rfl
end
section
section
variable {c:CF} {l:Lc} {H H':Hp} {v:V} {args vs:List V} {fd:FD} {i:Nat}
theorem aE(a:jQ i=some fd)(b:oa fd args=some vs)(h:au c fd.Aa (λj=>vs[j]?) H=.ok (.Ab v,l') H'):aM c i args H=.ok v H':=by
 show(Option.elim (jQ i) _ _:AM V) H=_;refine af a ?_;show cs (oa fd args) _ H=_;refine af b ?_;show(au c fd.Aa (λj=>vs[j]?) H).Aa _=_;exact af h rfl
theorem mP(a:jQ i=some fd)(b:oa fd args=some vs)(h:au c fd.Aa (λj=>vs[j]?) H=.ok (.Aa,l') H'):aM c i args H=.ok .C H':=by
 show(Option.elim (jQ i) _ _:AM V) H=_;refine af a ?_;show cs (oa fd args) _ H=_;refine af b ?_;show(au c fd.Aa (λj=>vs[j]?) H).Aa _=_;exact af h rfl
theorem bT{_:Decidable p}(h:p):be p f H=f H:=congrFun (Qh h) H
theorem ye(h:bS v H=some b)(k:Nat):lf v H k H=.ok (b[k]?.map λx=>.A x.toNat) H:=by
 rcases ib h with rfl|⟨i,rfl,e⟩
 ·rfl
 ·show(Option.elim H[i]? (λ_=>AM.Ac) λa=>oC (λ_=>AM.Ac) a (dict:=uB i) (list:=λ_=>lg i) (barr:=λ_=>uA i)) k H=_;refine af e ?_;show(Option.elim H[i]? .Ab λo=>bJ.ok o H).Aa _=_;exact af e rfl
theorem gh(h:bS v H=some b)(a:b.length<=16777216):jb "len" [v] H=.ok (.A b.length) H:=by
 rcases ib h with rfl|⟨i,rfl,e⟩
 ·exact bT (p:=cx b.length) a
 ·show(Option.elim H[i]? .Ab λo=>bJ.ok o H).Aa _=_;exact af e<|bT (p:=cx b.length) a
theorem pU{n k:Nat}(h:n<2^k):Builtin.Int.intBits (n:Int)<=k:=by
 unfold Builtin.Int.intBits
 split
 ·exact QO _
 ·rename_i a
  haveI:n≠0:=λe=>a (by subst e;rfl);exact af (Int.natAbs_natCast ..)<|(Nat.log2_lt this).mpr h
theorem yf(b:List UInt8)(x:UInt8):aQ (b++[x])=aQ b*256+x.toNat:=by
 unfold aQ;exact af ZK rfl
theorem qQ(b:List UInt8)(h:k<b.length):aQ (b.take<|k+1)=aQ (b.take k)*256+b[k].toNat:=by
 exact af (List.take_succ_eq_append_getElem h ..)<|af (yf ..) rfl
end
def bH(args:List V)(H:Hp):Option (bJ V):=(oW args).bind λv=>(bS v H).bind λl=>if l.length<=200 then some (.ok (.A<|aQ l) H) else none
theorem mH{c:CF}(h:c 16=cU bH)(a:bS v H=some b)(d:b.length<=200):c 16 [v] H=.ok (.A<|aQ b) H:=
 eU h (by show(bS v H).bind _=_;exact af a<|Qh d)
theorem aaz(c:CF):Ct c 16 bH:=by
 intro args H r _ _ h;revert h;refine dy λv n h=>?_;revert h;refine dy λb f h=>?_;revert h;refine ey λo h=>?_;injection h with z1;subst z1;refine af (gA n)<|.inl<|QR ?_;obtain⟨l',H',e,p,q⟩:=gR (c:=c) (t:=.A 2) (src:=lf v H) (step:=au c [.A (.A 1)<|.E .BitOr (.E .LShift (.A 1)<|.B 8)<|.A 2]) (n:=b.length)
  (λk a H'=>H'=H/\a 1=some (.A<|aQ<|b.take k)) (λk=>(b[k]?.map λx=>V.A x.toNat).getD .C)
  (λk a H' g d=>aP d λe q=>by
   subst e;have m:=Qw g;refine af m<|⟨by(refine af (ye f ..) ?_;refine af (m ..) ?_);rfl,_,_,_,_,rfl,ah (az<|aq (aq (aa q) rfl<|afd (q:=8) ⟨lb,Qa (pU<|rY _) ?_⟩) (aa rfl) rfl) aV,rfl,?_⟩
   ·exact af QL<|aU<|QJ (Qd 8)<|Qa (Nat.min_le_right k b.length) o
   ·show some (V.A<|Builtin.bitOr _ _)=_;exact af (uT ..)<|af (qQ b g ..) rfl)
  (λa H' d=>aP d λe q=>by(refine af (e ..)<|af (ye f ..)<|af (List.getElem?_eq_none (Qd _) ..) ?_);rfl) 1001 0 (Lc.Aa (λj=>[v][j]?) 1<|.A 0) H (QO _) (Qv ‹_› lb) ⟨rfl,rfl⟩
 subst p;exact aE rfl rfl<|ah (az rfl)<|ah (eF (aa rfl) e)<|aI<|aa (by(exact af q<|af List.take_length rfl))
end
section
theorem aaC(b:List UInt8):∀n,b.foldl (λn x=>n*256+x.toNat) n=n*2^(8*b.length)+aQ b:=by
 induction b with
 |nil=>intro n;simp [aQ]
 |cons x b a=>
  intro n;unfold aQ;rw [List.foldl_cons,List.foldl_cons,a,a,QG,Nat.mul_add,Nat.pow_add,Nat.add_mul,Nat.zero_mul,Nat.zero_add];simp only [Nat.mul_assoc,Nat.mul_comm,Nat.mul_left_comm,Zt]
theorem nQ(a b:List UInt8):aQ (a++b)=aQ a*2^(8*b.length)+aQ b:=by
 refine cI (aaC ..) ?_;unfold aQ;exact af ZK rfl
theorem kO(b:List UInt8)(e:Nat)(h:e<=b.length):aQ (b.take e)=aQ b/ 2^(8*(b.length - e)):=by
 haveI q:=nQ (b.take e)<|b.drop e;rw [List.take_append_drop,QK] at q;haveI r:=rY<|b.drop e;rw [QK] at r;exact af (q ..)<|af (Nat.mul_comm ..)<|af (Nat.mul_add_div (Nat.two_pow_pos _) ..)<|af (Nat.div_eq_of_lt r ..)<|af (Nat.add_zero ..) rfl
theorem ua(b:List UInt8)(i e:Nat)(h:i<=e)(a:e<=b.length):aQ (b.take e)=aQ (b.take i)*2^(8*(e - i))+aQ (bM i e b):=by
 haveI q:=nQ ((b.take e).take i)<|(b.take e).drop i;rw [List.take_append_drop,QK,QL,List.take_take,ZE h,ZE a] at q;exact q
theorem adU(b:List UInt8)(d m:Nat)(h:d+m<=8*b.length):aQ (bM (d/ 8) ((d+m+7)/ 8) b)/ 2^(8*((d+m+7)/ 8) - (d+m))%2^m=aQ b/ 2^(8*b.length - (d+m))%2^m:=by
 have f:(d+m+7)/ 8<=b.length:=amY h;haveI j:d/ 8<=(d+m+7)/ 8:=Nat.div_le_div_right<|Qa (Qq d m)<|Qq ..;have g:d+m<=8*((d+m+7)/ 8):=afy;generalize (d+m+7)/ 8=e at f j g ⊢;haveI n:=kO b e f;haveI i:=ua b (d/ 8) e j f;generalize aQ (bM (d/ 8) e b)=C at i;generalize aQ (b.take<|d/ 8)=K at i;have k:=ahX g;generalize d%8=r at k;rw [show 8*b.length - (d+m)=8*(b.length - e)+(8*e - (d+m)) from by rw [←Nat.add_sub_assoc g,←Nat.mul_add,Nat.sub_add_cancel f],Nat.pow_add,←Nat.div_div_eq_div_mul,←n,i,k];generalize 8*e - (d+m)=a;rw [show K*2^(a+m+r)+C=2^a*(2^m*(K*2^r))+C from by(refine af (Nat.pow_add ..)<|af (Nat.pow_add ..) ?_);simp only [Nat.mul_assoc,Nat.mul_comm,Nat.mul_left_comm],Nat.mul_add_div<|Nat.two_pow_pos _,Nat.mul_add_mod]
section
variable {c:CF} {l:Lc} {H H1 H2:Hp} {v:V} {b:List UInt8}
theorem afe{b f s y t r e g}:vC d (.A i) n b f s y t r e g=f i:=rfl
theorem dW{i d:Nat}(h:i<2^62):wd (.A i) d=some i:=by
 have e:0<=(i:Int)/\(i:Int)<2^62:=⟨Zh i,by lia⟩;unfold wd;exact afe.trans<|af (Qh e) rfl
theorem ub(h:bS v H=some b):bS v (H++G)=some b:=by
 rcases ib h with rfl|⟨i,rfl,e⟩
 ·rfl
 ·show((H++G)[i]?.bind iJ)=_;refine af (Qj (Qg.mp e).1) ?_;exact af e rfl
theorem qZ(h:bS v H=some b)(a:wd x 0=some i)(d:wd y b.length=some j)(f:b.length<=16777216):∃u G,kj v x y H=.ok u (H++G)/\bS u (H++G)=some (bM i j b):=by
 rcases ib h with rfl|⟨k,rfl,e⟩
 ·refine qc (.G<|bM i j b) ([]) ?_ rfl;refine af (QF ..) ?_;show cs (wd x 0) _ H=_;exact af a<|af d<|bT (p:=cx b.length) f
 ·refine qc (.B H.length) ([.D<|bM i j b]) ?_ ?_
  ·show(Option.elim H[k]? .Ab λo=>bJ.ok o H).Aa _=_;refine af e<|af a ?_;show cs (wd y b.length) _ H=_;exact af d<|bT (p:=cx b.length) f
  ·show((H++[O.D<|bM i j b])[H.length]?.bind iJ)=_;refine af (QE (Qd _) ..) ?_;exact af (Nat.sub_self ..) rfl
end
mutual
theorem abT:∀v:V,v.K id=v
 | .C| .E _| .A _| .D _| .G _| .I _| .H _=>rfl
 | .B _=>rfl
 | .F l=>Qt V.F<|vY l
theorem vY:∀l:List V,adj id l=l
 |[]=>rfl
 |v::l=>by show v.K id::adj id l=_;exact af (abT ..)<|af (vY ..) rfl
end
theorem abU(l:List (Str×V)):wX id l=l:=by
 conv=>rhs;rw [←List.map_id l]
 exact List.map_congr_left λp _=>by exact af (abT ..) rfl
theorem agL:∀o:O,o.F id=o
 | .A l=>Qt O.A<|vY l
 | .B l ep=>by show O.B (wX id l) ep=_;exact af (abU ..) rfl
 | .D _=>rfl
 | .C c fs=>by show O.C c (wX id fs)=_;exact af (abU ..) rfl
theorem xw(w:WfH H)(a:n<=H.length):Sub n id H (H++G):=
 ⟨λi o e=>⟨by refine af (agL ..) ?_;show(H++G)[i]?=_;refine af (Qj (Qg.mp e).1) ?_;exact af e rfl,w i o e⟩,λ_ _ _ _ e=>e,λ_ _=>rfl,a⟩
theorem ij(w:WfH H)(a:n<=H.length)(d:v.J H.length=true):wY n (.ok v H) (.ok v<|H++G):=
 .inr (qe id (H++G) (by exact af (abT ..) rfl) (xw w a) d)
def uY(b:List UInt8)(a m:Nat):V:=if a+m<=8*b.length then .A ((aQ b/ 2^(8*b.length - (a+m))%2^m:Nat)) else .C
def jU(args:List V)(H:Hp):Option (bJ V):=(uU args).bind λp=>(bS p.1 H).bind λb=>(dq p.2.1).bind λa=>(dq p.2.2).bind λm=>if b.length<=200/\m<=1000/\a<=1000000 then some (.ok (uY b a m) H) else none
theorem aw(h:o=some a):o.bind f=f a:=by exact af h rfl
theorem bZ(n:Nat):dq (.A n)=some n:=Qh (t:=some n) (e:=none)<|Zh n
theorem ags{c:CF}{a m:Nat}(h:c 17=cU jU)(d:bS v H=some b)(e:b.length<=200)(f:m<=1000)(g:a<=1000000):c 17 [v,.A a,.A m] H=.ok (uY b a m) H:=
 eU h ((aw (f:=λb=>_) d).trans<|(aw<|bZ a).trans<|(aw<|bZ m).trans<|Qh ⟨e,f,g⟩)
theorem jn(h:wY n r a)(e:d=a):wY n r d:=e ▸h
theorem agM{c:CF}(i:c 16=cU bH):Ct c 17 jU:=by
 intro args H r w _ h;revert h;refine dy λn o h=>?_;obtain⟨v,x,y⟩:=n;revert h;refine dy λb j h=>?_;revert h;refine dy λa p h=>?_;revert h;refine dy λm q h=>?_;revert h;refine ey λf h=>?_;haveI s:=Qb h;subst s;obtain rfl:=bQ p;obtain rfl:=bQ q;refine af (jY o) ?_;dsimp only at j ⊢;haveI d:=gh j<|Qa f.1 lb
 by_cases g:a+m<=8*b.length
 ·have k:uY b a m=.A _:=Qh g;refine af k<|cM (qZ (x:=.A (a/ 8:Nat)) (y:=.A ((a+m+7)/ 8:Nat)) j (dW<|eJ<|Qa (Nat.div_le_self a 8) f.right.right) (dW<|eJ<|Qa (Nat.div_le_self ..)<|Zo (Qf f.2.2 f.2.1) 7)<|Qa f.1 lb) λu G e t=>?_;haveI z:(8:Int)*((a+m+7)/ 8:Nat) - a - m=((8*((a+m+7)/ 8) - (a+m):Nat):Int):=(Int.sub_sub ..).trans (Int.ofNat_sub afy).symm;refine jn (ij (G:=G) w (Qd _) rfl) ?_;apply aE (fd:=gZ) (vs:=[v,.A a,.A m]) rfl rfl;refine ah (az<|aq (aa rfl) rfl<|eY ⟨dd,lb⟩)<|ah (az<|aq (aq (aq (aa rfl) (aa rfl) rfl) rfl rfl) rfl<|eY ⟨dd,lb⟩)<|ah (aH<|am (aa rfl) (bh (ae (aa rfl) aj) d)<|iN<|cy<|znl<|QH.mpr<|amY g)<|ah (az<|aq (aq (aq rfl (aa rfl)<|eX<|.of_left lb) (aa rfl) rfl) (aa rfl) (show bJ.ok (V.A<|(8:Int)*((a+m+7)/ 8:Nat) - a - m) H=_ from by exact af z rfl))<|aI<|aq (aq (av (ae (dX (aa rfl) (aa rfl) (aa rfl) e) aj)<|mH i t ?_) (aa rfl) pd) (aq (aq rfl (aa rfl)<|afd ⟨?_,lb⟩) rfl rfl) ?_
  ·unfold bM;exact af QK<|af QL<|Qa (Nat.sub_le ..)<|Qa (Nat.min_le_right ..) f.1
  ·exact eJ f.right.left
  ·show bJ.ok (V.A<|Builtin.bitAnd _<|1*2^m - 1) _=_;exact af (Int.one_mul ..)<|af (kbt_mask ..)<|cI (adU b a m g ..)<|af (Int.natCast_emod ..)<|af (Int.natCast_ediv ..)<|af (Int.natCast_pow ..)<|af (Int.natCast_pow ..) rfl
 ·have k:uY b a m=.C:=Qe g;refine af k<|.inl<|QR ?_;apply aE (fd:=gZ) (vs:=[v,.A a,.A m]) rfl rfl;exact ah (az<|aq (aa rfl) rfl<|eY ⟨dd,lb⟩)<|ah (az<|aq (aq (aq (aa rfl) (aa rfl) rfl) rfl rfl) rfl<|eY ⟨dd,lb⟩)<|bb<|aK (am (aa rfl) (bh (ae (aa rfl) aj) d)<|iN<|dh<|Zf.mpr<|aof g)<|aI rfl
end
section
noncomputable def cW(b:List UInt8)(i:Nat):Nat:=(b[i]?.getD 0).toNat
section
variable {c:CF} {l:Lc} {H H1 H2:Hp} {v:V} {b:List UInt8} {i:Nat} {e a:X}
theorem nA:cW b i<256:=(b[i]?.getD 0).toNat_lt
theorem qP(h:i<b.length):b[i]?=some (b[i])/\cW b i=b[i].toNat:=by
 haveI q:=Qw h;exact⟨q,by unfold cW;exact af q rfl⟩
theorem pT(h:i<n)(d:n<=1000000):idx (i:Int) n=some i:=by unfold idx;exact(Qh ⟨Zh _,Zf.mpr ‹_›,d⟩).trans rfl
theorem jj(h:bS v H=some b)(d:i<b.length)(f:b.length<=1000000):nZ v (.A i) H=.ok (.A<|cW b i) H:=by
 refine aP (qP d) λg j=>?_;refine af j ?_;rcases ib h with rfl|⟨k,rfl,e⟩
 ·show cs (idx i b.length) _ H=_;refine af (pT d f) ?_;show cs b[i]? _ H=_;exact af g rfl
 ·show(Option.elim H[k]? .Ab λo=>bJ.ok o H).Aa _=_;refine af e ?_;show cs (idx i b.length) _ H=_;refine af (pT d f) ?_;show cs b[i]? _ H=_;exact af g rfl
theorem vR(h:i+2<=b.length):aQ (bM i (i+2) b)=cW b i*256+cW b (i+1):=by
 haveI e:bM i (i+2) b=[b[i],b[i+1]]:=by
  unfold bM;exact af List.drop_take<|af (show i+2 - i=2 from ZG i 2)<|af (List.drop_eq_getElem_cons<|Nat.lt_of_succ_lt h)<|af (List.drop_eq_getElem_cons<|Nat.lt_of_succ_le h) rfl
 refine af e<|af ((qP (b:=b) (i:=i)<|Nat.lt_of_succ_lt h).2)<|af ((qP (b:=b) (i:=i+1)<|Nat.lt_of_succ_le h).2) ?_;show(0*256+_)*256+_=_;rw [Nat.zero_mul,Nat.zero_add]
theorem uj(d:c 16=cU bH)(g:l 0=some v)(h:bS v H=some b)(k:wd x 0=some i)(m:wd y b.length=some j)(f:b.length<=200)(n:ak c a l H=.ok x H)(o:ak c e l H=.ok y H):
 ∃G,ak c (.G (.F 16) [.N (.A 0) a e]) l H=.ok (.A<|aQ<|bM i j b) (H++G)/\bS v (H++G)=some b:=by
 refine cM (qZ h k m<|Qa f lb) λu G p q=>bv G (av (ae (dX (aa g) n o p) aj)<|mH d q ?_)<|ub h;unfold bM;exact af QK<|af QL<|Qa (Nat.sub_le ..)<|Qa (Nat.min_le_right ..) f
theorem pQ(x k:Nat):Builtin.bitAnd (x:Int) (2^k - 1)=((x%2^k:Nat):Int):=by(refine af (kbt_mask ..)<|af (Int.natCast_emod ..)<|af (Int.natCast_pow ..) ?_);rfl
theorem agS(x k:Nat):Builtin.bitAnd (x:Int) (2^k)=((x/ 2^k%2*2^k:Nat):Int):=by(refine af (kbt_bit ..)<|af (Int.natCast_mul ..)<|af (Int.natCast_emod ..)<|af (Int.natCast_ediv ..)<|af (Int.natCast_pow ..) ?_);rfl
end
def lE(b:List UInt8):Nat:=cW b 6*256+cW b 7
abbrev ok4(b:List UInt8):Prop:=20<=b.length/\cW b 0/ 16=4/\5<=cW b 0%16/\cW b 0%16*4<=b.length
noncomputable abbrev aD:=Option<|Nat×Nat×Nat×Bool
noncomputable def bU:aD->V
 |none=>.C
 |some (k,a,p,m)=>.F [.A k,.A a,.A p,.E m]
def ji(b:List UInt8):aD:=if ok4 b then some (cW b 9,cW b 0%16*4,lE b%8192*8,decide (lE b/ 8192%2=1)) else none
def iR(b:List UInt8):V:=bU<|ji b
def pX(P:List UInt8->V)(args:List V)(H:Hp):Option (bJ V):=(oW args).bind λv=>(bS v H).bind λb=>if b.length<=200 then some (.ok (P b) H) else none
theorem abZ{c:CF}(h:c i=cU (pX P))(d:bS v H=some b)(f:b.length<=200):c i [v] H=.ok (P b) H:=
 eU h ((aw (f:=λb=>_) d).trans<|Qh f)
theorem aef(p:c 16=cU bH):Ct c 18 (pX iR):=by
 intro args H r w _ h;revert h;refine dy λv A h=>?_;revert h;refine dy λb s h=>?_;revert h;refine ey λm h=>?_;haveI B:=Qb h;subst B;refine af (gA A) ?_;have d:∀{l:Lc},l 0=some v->ak c (.K "len" [.A 0]) l H=.ok (.A b.length) H:=λg=>bh (ae (aa g) aj)<|gh s<|Qa m lb;have t:∀{l:Lc},l 0=some v->20<=b.length->ak c (.H (.A 0)<|.B 0) l H=.ok (.A<|cW b 0) H:=λg F=>aJ (aa g) rfl<|jj (i:=0) s (Qa (Nat.le_add_left _ _) ‹_›)<|aU m;haveI C:(Builtin.bitAnd (cW b 0) 15:Int)=((cW b 0%16:Nat):Int):=pQ _ 4
 by_cases u:b.length<20
 ·refine af (show iR b=.C from Qt bU<|Qe<|λx=>by have:=x.1;exact absurd u<|Nat.not_lt_of_le this)<|.inl<|QR ?_;apply aE (fd:=eR) (vs:=[v]) rfl rfl;exact bb<|aK (cu<|am (d rfl) rfl<|hZ<|dh<|Zf.mpr ‹_›)<|aI rfl
 haveI f:20<=b.length:=QH.mp ‹_›
 by_cases y:cW b 0/ 16=4
 case neg=>
  refine af (show iR b=.C from Qt bU<|Qe<|λx=>y x.2.1)<|.inl<|QR ?_;apply aE (fd:=eR) (vs:=[v]) rfl rfl;exact bb<|aK (bD (am (d rfl) rfl<|hZ<|cy<|znl u)<|cu (d:=false)<|am (aq (t rfl f) rfl<|pd (q:=4)) rfl<|qO<|cy<|λq=>y (by haveI:((cW b 0/ 16:Nat):Int)=4:=q;exact ZJ this))<|aI rfl
 have s1:aN c (.C (.P false [.I .Lt (.K "len" [.A 0])<|.B 20,.I .NotEq (.E .RShift (.H (.A 0)<|.B 0)<|.B 4)<|.B 4]) [.B .J] []) (λj=>[v][j]?) H=.ok (.Aa,λj=>[v][j]?) H:=
  aH (bD (am (d rfl) rfl<|hZ<|cy<|znl u)<|bD (am (aq (t rfl f) rfl<|pd (q:=4)) rfl<|qO<|dh (show((cW b 0/ 16:Nat):Int)=4 by exact Qt _ ‹_›)) fL)
 have z:∀{l:Lc},l 0=some v->ak c (.E .Mult (.E .BitAnd (.H (.A 0)<|.B 0)<|.B 15)<|.B 4) l H=.ok (.A (cW b 0%16*4:Nat)) H:=λg=>aq (aq (t g f) rfl (show bJ.ok (V.A<|Builtin.bitAnd _ _) H=_ from by exact af C rfl)) rfl<|eX (q:=4)<|.of_right lb
 by_cases k:cW b 0%16<5
 ·refine af (show iR b=.C from Qt bU<|Qe<|λx=>by have:=x.2.2.1;exact absurd k<|Nat.not_lt_of_le this)<|.inl<|QR ?_;apply aE (fd:=eR) (vs:=[v]) rfl rfl;exact ah s1<|ah (az<|z rfl)<|bb<|aK (cu<|am (aa rfl) rfl<|hZ<|dh<|zA<|QJ (Qm k)<|Qd 4)<|aI rfl
 by_cases o:cW b 0%16*4<=b.length
 case neg=>
  refine af (show iR b=.C from Qt bU<|Qe<|λx=>o x.2.2.2)<|.inl<|QR ?_;apply aE (fd:=eR) (vs:=[v]) rfl rfl;exact ah s1<|ah (az<|z rfl)<|bb<|aK (bD (am (aa rfl) rfl<|hZ<|cy<|znl<|QH.mpr<|Nat.mul_le_mul_right 4<|QH.mp k)<|cu (d:=false)<|am (aa rfl) (d rfl)<|iN<|dh<|Zf.mpr<|Nat.lt_of_not_le o)<|aI rfl
 refine af (show iR b=.F _ from Qt bU<|Qh ⟨f,y,QH.mp k,o⟩)<|aT (uj (l:=Lc.Aa (λj=>[v][j]?) 1<|.A (cW b 0%16*4:Nat)) (a:=.B 6) (e:=.B 8) p rfl s (dW (i:=6) lb) (dW (i:=8) lb) m rfl rfl) λG D E=>jn (ij (G:=G) w (Qd _) rfl) ?_;apply aE (fd:=eR) (vs:=[v]) rfl rfl;refine ah s1<|ah (az<|z rfl) ?_;refine ah (aH<|bD (am (aa rfl) rfl<|hZ<|cy<|znl<|QH.mpr<|Nat.mul_le_mul_right 4<|QH.mp k)<|bD (am (aa rfl) (d rfl)<|iN<|cy<|znl<|QH.mpr o) fL)<|ah (az D)<|af (show aQ (bM 6 8 b)=lE b from vR (i:=6)<|acw f)<|aI<|bf<|ae (aJ (aa rfl) rfl<|jj (i:=9) E (Qa (Nat.le_add_left _ _) ‹_›)<|aU m)<|ae (aa rfl)<|ae (aq (aq (aa rfl) rfl (show bJ.ok (V.A<|Builtin.bitAnd (lE b:Int) 8191) _=bJ.ok (V.A (lE b%8192:Nat)) _ from by exact af (show Builtin.bitAnd (lE b:Int) 8191=((lE b%8192:Nat):Int) from pQ _ 13) rfl)) rfl<|eX (q:=8)<|.of_right lb)<|ae (ia (aq (aa rfl) rfl rfl) rfl ?_) aj
 ·refine af (show Builtin.bitAnd (lE b:Int) 8192=((lE b/ 8192%2*8192:Nat):Int) from agS _ 13)<|(qO rfl).trans ?_;congr 2
  by_cases q:lE b/ 8192%2=1
  ·exact af (dh q)<|af (cy<|zne<|by rw [q];exact Nat.succ_ne_zero _) rfl
  ·exact af (cy q)<|af (dh<|Qt (λn:Nat=>((n*8192:Nat):Int))<|(Nat.mod_two_eq_zero_or_one _).resolve_right q) rfl
end
theorem sZ(x:Int)(h:y%2=0):Builtin.bitAnd x y=2*Builtin.bitAnd (x/ 2) (y/ 2):=by
 exact af (kbt_halves ..)<|af (Qe (λq=>by have:=q.2;lia) ..)<|af (Int.add_zero ..) rfl
theorem aaN(w:Nat)(h:w<65536):Builtin.bitAnd (w:Int) 65528=((w/ 8*8:Nat):Int):=by
 refine af (sZ _ dd)<|af (sZ _ dd)<|af (sZ _ dd)<|af (show(65528:Int)/ 2/ 2/ 2=2^13 - 1 from rfl ..)<|af (kbt_mask ..) ?_;haveI:(2:Int)^13=8192:=dd;exact af this<|afz h
noncomputable def vV(k s:Nat):Nat:=if k=0∨k=43∨k=60 then(s+1)*8 else if k=51 then(s+2)*4 else if k=44 then 8 else 0
def lp(l:List V):Option (V×V):=lC none (λa l=>sC none (λb=>some (a,b)) l) l
theorem eW(h:lp l=some p):l=[p.1,p.2]:=by
 cases l with
 |nil=>exact ar h
 |cons x l=>
  cases l with
  |nil=>exact ar h
  |cons y l=>
   cases l with
   |nil=>haveI h:=Qb h;subst h;rfl
   |cons _ _=>exact ar h
def nY(args:List V)(H:Hp):Option (bJ V):=(lp args).bind λp=>(dq p.1).bind λk=>(dq p.2).bind λs=>if k<256/\s<256 then some (.ok (.A<|vV k s) H) else none
theorem afr{c:CF}{k s:Nat}(h:c 19=cU nY)(d:k<256)(hs:s<256):c 19 [.A k,.A s] H=.ok (.A<|vV k s) H:=
 eU h (show((dq<|.A (k:Int)).bind λa=>(dq<|.A (s:Int)).bind λb=>if a<256/\b<256 then some (bJ.ok (V.A<|vV a b) H) else none)=_ from
  (aw<|bZ k).trans ((aw<|bZ s).trans<|Qh ⟨d,hs⟩))
theorem vT{xs:List Int}(b:ak c e l H=.ok (.A x) H)(h:(xs.any λj=>decide (j=x))=k):eO .In (.A x) (.F<|xs.map V.A) H=.ok (.E k) H:=by
 haveI q:∀xs:List Int,ou x (xs.map V.A)=some (xs.any λj=>decide (j=x)):=by
  intro xs
  induction xs with
  |nil=>rfl
  |cons j xs a=>show(ou x<|xs.map V.A).map _=_;exact af a rfl
 show zB (ou x<|xs.map V.A) H=_;exact af (q ..)<|af (h ..) rfl
theorem ajJ(c:CF):Ct c 19 nY:=by
 intro args H r w _ h;revert h;refine dy λg i h=>?_;obtain⟨x,y⟩:=g;revert h;refine dy λk l h=>?_;revert h;refine dy λs m h=>?_;revert h;refine ey λo h=>?_;injection h with z3;subst z3;obtain rfl:=bQ l;obtain rfl:=bQ m;refine af (eW i) ?_;dsimp only;refine .inl<|QR ?_;have d:∀q:Bool,(([0,43,60]:List Int).any λj=>decide (j=(k:Int)))=q->bj c (.I .In (.A 0)<|.D [.B 0,.B 43,.B 60]) (λj=>[V.A (k:Int),V.A (s:Int)][j]?) H=.ok q H:=λq n=>am (aa rfl) rfl<|vT (c:=c) (l:=λj=>[V.A (k:Int),V.A (s:Int)][j]?) (e:=.A 0) (xs:=[0,43,60]) rfl n
 by_cases a:k=0∨k=43∨k=60
 ·refine af (show vV k s=(s+1)*8 from Qh a) ?_;apply aE (fd:=cD) (vs:=[.A k,.A s]) rfl rfl;exact bb<|aK (d true (by rcases a with rfl|rfl|rfl<;>rfl))<|aI<|aq (aq (aa rfl) rfl rfl) rfl<|eX (q:=8)<|.of_right lb
 have e:(([0,43,60]:List Int).any λj=>decide (j=(k:Int)))=false:=by
  simp only [List.any_cons,List.any_nil,Bool.or_false,Bool.or_eq_false_iff,decide_eq_false_iff_not];exact⟨λq=>a<|.inl (ZJ q).symm,λq=>a<|.inr<|.inl (ZJ q).symm,λq=>a<|.inr<|.inr (ZJ q).symm⟩
 by_cases b:k=51
 ·refine af (show vV k s=(s+2)*4 from(Qe a).trans<|Qh b) ?_;apply aE (fd:=cD) (vs:=[.A k,.A s]) rfl rfl;exact ah (aH<|d false e)<|bb<|aK (am (aa rfl) rfl<|dC<|dh<|Qt _ ‹_›)<|aI<|aq (aq (aa rfl) rfl rfl) rfl<|eX (q:=4)<|.of_right lb
 by_cases f:k=44
 ·refine af (show vV k s=8 from(Qe a).trans<|(Qe b).trans<|Qh f) ?_;apply aE (fd:=cD) (vs:=[.A k,.A s]) rfl rfl;exact ah (aH<|d false e)<|ah (aH<|am (aa rfl) rfl<|dC<|cy<|zne b)<|bb<|aK (am (aa rfl) rfl<|dC<|dh<|Qt _ ‹_›)<|aI rfl
 ·refine af (show vV k s=0 from(Qe a).trans<|(Qe b).trans<|Qe f) ?_;apply aE (fd:=cD) (vs:=[.A k,.A s]) rfl rfl;exact ah (aH<|d false e)<|ah (aH<|am (aa rfl) rfl<|dC<|cy<|zne b)<|ah (aH<|am (aa rfl) rfl<|dC<|cy<|zne f)<|aI rfl
def eZ(b:List UInt8)(a k:Nat):Option Nat:=if vV k 0=0 then some 0 else if b.length<a+2 then none else if b.length<a+vV k (cW b<|a+1) then none else some (vV k<|cW b<|a+1)
noncomputable def qY(o:Option Nat):V:=.A (match o with|some n=>n|none=> -1)
def xz(l:List V):Option (V×V×V×V):=lC none (λa l=>lC none (λb l=>lC none (λc l=>sC none (λd=>some (a,b,c,d)) l) l) l) l
theorem mE(h:xz l=some p):l=[p.1,p.2.1,p.2.2.1,p.2.2.2]:=by
 cases l with
 |nil=>exact ar h
 |cons x l=>
  cases l with
  |nil=>exact ar h
  |cons y l=>
   cases l with
   |nil=>exact ar h
   |cons z l=>
    cases l with
    |nil=>exact ar h
    |cons u l=>
     cases l with
     |nil=>haveI h:=Qb h;subst h;rfl
     |cons _ _=>exact ar h
def iU(args:List V)(H:Hp):Option (bJ V):=(xz args).bind λp=>(bS p.1 H).bind λb=>(dq p.2.1).bind λa=>(dq p.2.2.1).bind λk=>(dq p.2.2.2).bind λe=>if b.length<=200/\e=b.length/\k<256 then some (.ok (qY<|eZ b a k) H) else none
theorem aha{c:CF}{a k:Nat}(h:c 20=cU iU)(d:bS v H=some b)(e:b.length<=200)(f:k<256):c 20 [v,.A a,.A k,.A b.length] H=.ok (qY<|eZ b a k) H:=
 eU h ((aw (f:=λb=>_) d).trans<|(aw<|bZ a).trans<|(aw<|bZ k).trans<|(aw<|bZ _).trans<|Qh ⟨e,rfl,f⟩)
theorem ahb{c:CF}(g:c 19=cU nY):Ct c 20 iU:=by
 intro args H r w _ h;revert h;refine dy λs t h=>?_;obtain⟨v,x,y,z⟩:=s;revert h;refine dy λb n h=>?_;revert h;refine dy λa u h=>?_;revert h;refine dy λk A h=>?_;revert h;refine dy λe B h=>?_;revert h;refine ey λo h=>?_;haveI C:=Qb h;subst C;refine gx o λo D j=>?_;subst D;obtain rfl:=bQ u;obtain rfl:=bQ A;obtain rfl:=bQ B;refine af (mE t) ?_;dsimp only at n ⊢;refine .inl<|QR ?_;haveI E:=afr (k:=k) (s:=0) (H:=H) g j lb;have d:∀{l:Lc} {q:Bool},l 2=some (.A k)->decide ((vV k 0:Int)=0)=q->bj c (.I .Eq (.G (.F 19) [.A 2,.B 0])<|.B 0) l H=.ok q H:=λj F=>am (av (ae (aa j)<|ae rfl aj) E) rfl<|dC F
 by_cases f:vV k 0=0
 ·refine af (show eZ b a k=some 0 from Qh f) ?_;apply aE (fd:=dA) (vs:=[v,.A a,.A k,.A b.length]) rfl rfl;exact bb<|aK (d rfl<|dh<|Qt _ ‹_›)<|aI rfl
 by_cases i:b.length<a+2
 ·refine af (show eZ b a k=none from(Qe f).trans<|Qh i) ?_;apply aE (fd:=dA) (vs:=[v,.A a,.A k,.A b.length]) rfl rfl;exact ah (aH<|d rfl<|cy<|zne f)<|bb<|aK (am (aq (aa rfl) rfl rfl) (aa rfl)<|iN<|dh<|Zf.mpr ‹_›)<|aI<|jL rfl
 haveI p:∀{l:Lc},l 0=some v->l 1=some (.A a)->l 2=some (.A k)->ak c (.G (.F 19) [.A 2,.H (.A 0)<|.E .Add (.A 1)<|.B 1]) l H=.ok (.A<|vV k<|cW b<|a+1) H:=λG I J=>
  av (ae (aa J)<|ae (aJ (aa G) (aq (aa I) rfl rfl)<|jj (i:=a+1) n (QH.mp ‹_›)<|Qa ‹_› lb) aj) (afr g j nA)
 by_cases m:b.length<a+vV k (cW b<|a+1)
 ·refine af (show eZ b a k=none from(Qe f).trans<|(Qe i).trans<|Qh m) ?_;apply aE (fd:=dA) (vs:=[v,.A a,.A k,.A b.length]) rfl rfl;exact ah (aH<|d rfl<|cy<|zne f)<|ah (aH<|am (aq (aa rfl) rfl rfl) (aa rfl)<|iN<|cy<|znl i)<|ah (az<|p rfl rfl rfl)<|bb<|aK (am (aq (aa rfl) (aa rfl) rfl) (aa rfl)<|iN<|dh<|Zf.mpr ‹_›)<|aI<|jL rfl
 ·refine af (show eZ b a k=some _ from(Qe f).trans<|(Qe i).trans<|Qe m) ?_;apply aE (fd:=dA) (vs:=[v,.A a,.A k,.A b.length]) rfl rfl;exact ah (aH<|d rfl<|cy<|zne f)<|ah (aH<|am (aq (aa rfl) rfl rfl) (aa rfl)<|iN<|cy<|znl i)<|ah (az<|p rfl rfl rfl)<|ah (aH<|am (aq (aa rfl) (aa rfl) rfl) (aa rfl)<|iN<|cy<|znl m)<|aI<|aa rfl
def iP(b:List UInt8)(a:Nat):Nat:=(cW b (a+2)*256+cW b (a+3))/ 8*8
def gu(args:List V)(H:Hp):Option (bJ V):=(lp args).bind λp=>(bS p.1 H).bind λb=>(dq p.2).bind λa=>if b.length<=200/\a+4<=b.length then some (.ok (.A<|iP b a) H) else none
theorem aen{c:CF}(h:c 21=cU gu)(d:bS v H=some b)(e:b.length<=200)(f:a+4<=b.length):c 21 [v,.A a] H=.ok (.A<|iP b a) H:=
 eU h ((aw (f:=λb=>_) d).trans<|(aw<|bZ a).trans<|Qh ⟨e,f⟩)
theorem aeo(e:c 16=cU bH):Ct c 21 gu:=by
 intro args H r w _ h;revert h;refine dy λi k h=>?_;obtain⟨v,x⟩:=i;revert h;refine dy λb f h=>?_;revert h;refine dy λa l h=>?_;revert h;refine ey λd h=>?_;haveI m:=Qb h;subst m;obtain rfl:=bQ l;refine af (eW k) ?_;dsimp only at f ⊢;refine aT (uj (l:=λj=>[v,.A a][j]?) (i:=a+2) (j:=a+4) (x:=.A (a+2:Nat)) (y:=.A (a+4:Nat)) (a:=.E .Add (.A 1)<|.B 2) (e:=.E .Add (.A 1)<|.B 4) e rfl f (dW<|eJ<|Qa (uz (d:=2) d.2) d.1) (dW<|eJ<|Qa d.2 d.1) d.1 (aq (aa rfl) rfl rfl)<|aq (aa rfl) rfl rfl) λG g _=>jn (ij (G:=G) w (Qd _) rfl) ?_;apply aE (fd:=jv) (vs:=[v,.A a]) rfl rfl;rw [show aQ (bM (a+2) (a+4) b)=cW b (a+2)*256+cW b (a+3) from vR (i:=a+2)<|And.right ‹_›] at g;refine aI<|aq g rfl (show bJ.ok (V.A<|Builtin.bitAnd _ 65528) _=_ from ?_);exact af (aaN _<|eJ<|Qf (Nat.mul_le_mul_right 256<|Qm<|nA (b:=b) (i:=a+2))<|Qm<|nA (b:=b) (i:=a+3)) rfl
end Mine
end
section
open PySem PySem.W
set_option Elab.async false
set_option linter.all false
set_option maxRecDepth 100000
set_option maxHeartbeats 1000000
set_option tactic.hygienic false
set_option genSizeOf false
set_option genCtorIdx false
set_option genInjectivity false
namespace Mine
section
variable {H:Hp} {m n:Nat}
theorem abF(h:m<n):eO .Lt (.A m) (.A n) H=.ok (.E true) H:=hZ<|dh<|Zf.mpr h
theorem vk(h:n<=m):eO .Lt (.A m) (.A n) H=.ok (.E false) H:=hZ<|cy λq=>QH.mpr h<|Zf.mp q
theorem alB(h:n<m):eO .Gt (.A m) (.A n) H=.ok (.E true) H:=iN<|dh<|Zf.mpr h
theorem alC(h:m<=n):eO .Gt (.A m) (.A n) H=.ok (.E false) H:=iN<|cy λq=>QH.mpr h<|Zf.mp q
theorem eq_t(h:m=n):eO .Eq (.A m) (.A n) H=.ok (.E true) H:=dC<|dh<|Qt Int.ofNat h
theorem eq_f(h:m≠n):eO .Eq (.A m) (.A n) H=.ok (.E false) H:=dC<|cy λq=>h<|ZJ q
theorem anm(h:m≠n):eO .NotEq (.A m) (.A n) H=.ok (.E true) H:=qO<|cy λq=>h<|ZJ q
theorem alA(h:m=n):eO .NotEq (.A m) (.A n) H=.ok (.E false) H:=qO<|dh<|Qt Int.ofNat h
end
noncomputable def mN(b:List UInt8):Nat->Nat->Nat->Nat->Bool->Option aD
 | 0,_,_,_,_=>none
 |n+1,k,a,p,m=>if p≠0 then some (some (k,a,p,m)) else match eZ b a k with
  |none=>some none
  |some s=>if k=0/\40<a then some none else if s=0 then some (some (k,a,p,m)) else
   if k=44 then mN b n (cW b a) (a+s) (iP b a) (decide (cW b (a+3)%2=1)) else mN b n (cW b a) (a+s) p m
noncomputable abbrev te:List S:=[.A (.A 5)<|.G (.F 20) [.A 0,.A 2,.A 1,.K "len" [.A 0]],.C (.P false [.I .Lt (.A 5)<|.B 0,.P true [.I .Eq (.A 1)<|.B 0,.I .Gt (.A 2)<|.B 40]]) [.B .J] [],.C (.I .Eq (.A 5)<|.B 0) [.I] [],.C (.I .Eq (.A 1)<|.B 44) [.A (.A 3)<|.G (.F 21) [.A 0,.A 2],.A (.A 4)<|.I .Eq (.E .BitAnd (.H (.A 0)<|.E .Add (.A 2)<|.B 3)<|.B 1)<|.B 1] [],.A (.A 1)<|.H (.A 0)<|.A 2,.J 2 .Add<|.A 5]
structure L6(l:Lc)(v:V)(k a p:Nat)(m:Bool):Prop where
 h0:l 0=some v
 h1:l 1=some (.A k)
 h2:l 2=some (.A a)
 h3:l 3=some (.A p)
 h4:l 4=some (.E m)
theorem pD(h:eZ b a k=some s)(hs:s≠0):a+2<=b.length/\a+s<=b.length/\(k=44->s=8):=by
 unfold eZ at h
 split at h
 ·injection h with z1;subst z1;exact absurd rfl hs
 split at h
 ·injection h
 split at h
 ·injection h
 injection h with z2;subst z2;refine⟨QH.mp ‹_›,QH.mp ‹_›,λe=>by subst e;rfl⟩
theorem pP{step:Lc->AM (Fl×Lc)}(h:a l H=.ok false H1):iq a step (n+1) l H=.ok (.Aa,l) H1:=by
 show(a l H).Aa _=_;exact af h rfl
theorem kC{step:Lc->AM (Fl×Lc)}(h:a l H=.ok true H1)(b:step l H1=.ok (.Aa,c) d)(e:iq a step n c d=r):iq a step (n+1) l H=r:=by
 show(a l H).Aa _=_;refine af h ?_;show(step l H1).Aa _=_;exact af b e
theorem aaT{step:Lc->AM (Fl×Lc)}(h:a l H=.ok true H1)(b:step l H1=.ok (.Ac,c) d):iq a step (n+1) l H=.ok (.Aa,c) d:=by
 show(a l H).Aa _=_;refine af h ?_;show(step l H1).Aa _=_;exact af b rfl
theorem uy{step:Lc->AM (Fl×Lc)}(h:a l H=.ok true H1)(b:step l H1=.ok (.Ab v,c) d):iq a step (n+1) l H=.ok (.Ab v,c) d:=by
 show(a l H).Aa _=_;refine af h ?_;show(step l H1).Aa _=_;exact af b rfl
theorem amN{b:List UInt8}(y:c 20=cU iU)(z:c 21=cU gu)(j:b.length<=200):∀n k a p m (l:Lc) (H:Hp),L6 l v k a p m->bS v H=some b->k<256->mN b n k a p m=some r->
 ∃l' G,(iq (bj c<|.I .Eq (.A 3)<|.B 0) (au c te) n l H=.ok (.Ab .C,l') (H++G)/\r=none)∨(iq (bj c<|.I .Eq (.A 3)<|.B 0) (au c te) n l H=.ok (.Aa,l') (H++G)/\∃C D E F,L6 l' v C D E F/\r=some (C,D,E,F)):=by
 intro n
 induction n with
 |zero=>intro k a p m l H Q f I h;exact ar h
 |succ n J=>
  intro k a p m l H Q f I h;haveI d:H++[]=H:=QF _;unfold mN at h
  by_cases g:p≠0
  ·rw [Qh g] at h;haveI N:=Qb h;subst N;exact fK l ([])<|.inr ⟨by refine af d ?_;exact pP<|am (aa Q.h3) rfl<|eq_f (n:=0) g,k,a,p,m,Q,rfl⟩
  have g:p=0:=Decidable.not_not.mp g;rw [Qe<|λx=>x g] at h;have t0:bj c (.I .Eq (.A 3)<|.B 0) l H=.ok true H:=am (aa Q.h3) rfl<|eq_t (n:=0) g;have s1:aN c (.A (.A 5)<|.G (.F 20) [.A 0,.A 2,.A 1,.K "len" [.A 0]]) l H=.ok (.Aa,l.Aa 5<|qY<|eZ b a k) H:=
   az (av (ae (aa Q.h0)<|ae (aa Q.h2)<|ae (aa Q.h1)<|ae (bh (ae (aa Q.h0) aj)<|gh f<|Qa j lb) aj)<|aha y f j I)
  cases hs:eZ b a k with
  |none=>
   rw [hs] at h s1;injection h with z4;subst z4;refine fK (l.Aa 5<|qY none) ([])<|.inl ⟨?_,rfl⟩;refine af d ?_;exact uy t0<|ah s1<|bb<|aK (cu<|am (aa rfl) rfl<|hZ (k:=true) rfl)<|aI rfl
  |some s=>
   rw [hs] at h s1;haveI K:bj c (.I .Lt (.A 5)<|.B 0) (l.Aa 5<|.A s) H=.ok false H:=am (aa rfl) rfl<|vk (n:=0)<|QO _;dsimp only at h
   by_cases hz:k=0/\40<a
   ·rw [Qh hz] at h;haveI P:=Qb h;subst P;refine fK (l.Aa 5<|.A s) ([])<|.inl ⟨?_,rfl⟩;refine af d ?_;exact uy t0<|ah s1<|bb<|aK (bD K<|cu (d:=false)<|bD (am (aa (show(l.Aa 5 _) 1=_ from Q.h1)) rfl<|eq_t (n:=0) hz.1)<|bD (am (aa (show(l.Aa 5 _) 2=_ from Q.h2)) rfl<|alB (n:=40) hz.2) fL)<|aI rfl
   rw [Qe hz] at h;have A:aN c (.C (.P false [.I .Lt (.A 5)<|.B 0,.P true [.I .Eq (.A 1)<|.B 0,.I .Gt (.A 2)<|.B 40]]) [.B .J] []) (l.Aa 5<|.A s) H=.ok (.Aa,l.Aa 5<|.A s) H:=by
    refine aH<|bD K<|bD ?_ fL
    by_cases q:k=0
    ·exact bD (am (aa (show(l.Aa 5 _) 1=_ from Q.h1)) rfl<|eq_t (n:=0) q)<|cu (d:=true)<|am (aa (show(l.Aa 5 _) 2=_ from Q.h2)) rfl<|alC (n:=40)<|QW λx=>hz ⟨q,x⟩
    ·exact cu (d:=true)<|am (aa (show(l.Aa 5 _) 1=_ from Q.h1)) rfl<|eq_f (n:=0) q
   by_cases t:s=0
   ·rw [Qh t] at h;haveI R:=Qb h;subst R;refine fK (l.Aa 5<|.A s) ([])<|.inr ⟨?_,k,a,p,m,⟨Q.h0,Q.h1,Q.h2,Q.h3,Q.h4⟩,rfl⟩;refine af d ?_;exact aaT t0<|ah s1<|ah A<|adC<|aK (am (aa rfl) rfl<|eq_t (n:=0) t) aiY
   rw [Qe t] at h;refine gx (pD hs t) λU b2 W=>?_;have L:aN c (.C (.I .Eq (.A 5)<|.B 0) [.I] []) (l.Aa 5<|.A s) H=.ok (.Aa,l.Aa 5<|.A s) H:=aH<|am (aa rfl) rfl<|eq_f (n:=0) t;have M:∀{H'} {l':Lc},bS v H'=some b->l' 0=some v->l' 2=some (.A a)->ak c (.H (.A 0)<|.A 2) l' H'=.ok (.A<|cW b a) H':=λo Y Z=>aJ (aa Y) (aa Z)<|jj o (Qr (Zs lb) U)<|Qa j lb
   by_cases e:k=44
   ·rw [Qh e] at h;haveI h8:=W e;haveI b4:a+4<=b.length:=by lia
    haveI i:∃G,aN c (.C (.I .Eq (.A 1)<|.B 44) [.A (.A 3)<|.G (.F 21) [.A 0,.A 2],.A (.A 4)<|.I .Eq (.E .BitAnd (.H (.A 0)<|.E .Add (.A 2)<|.B 3)<|.B 1)<|.B 1] []) (l.Aa 5<|.A s) H=.ok (.Aa,((l.Aa 5<|.A s).Aa 3<|.A<|iP b a).Aa 4<|.E (decide (cW b (a+3)%2=1))) (H++G):=by
     refine⟨[],?_⟩;refine af d ?_;refine aK (am (aa (show(l.Aa 5 _) 1=_ from Q.h1)) rfl<|eq_t (n:=44) e) (ah (az<|av (ae (aa (show(l.Aa 5 _) 0=_ from Q.h0))<|ae (aa (show(l.Aa 5 _) 2=_ from Q.h2)) aj)<|aen z f j b4)
      (ah (az<|ia (aq (aJ (aa (show((l.Aa 5 _).Aa 3 _) 0=_ from Q.h0)) (aq (aa (show((l.Aa 5 _).Aa 3 _) 2=_ from Q.h2)) rfl rfl)<|jj (i:=a+3) f (by assumption)<|Qa j lb) rfl rfl) rfl ?_) aV))
     refine af (show Builtin.bitAnd (cW b (a+3):Int) 1=((cW b (a+3)%2:Nat):Int) from pQ _ 1) ?_;refine(dC rfl).trans ?_;congr 2;exact decide_eq_decide.mpr ⟨λq=>ZJ q,λq=>Qt Int.ofNat q⟩
    refine bC i λw _=>?_;clear i;rename_i i;haveI u:bS v (H++w)=some b:=ub f;refine ip (J (cW b a) (a+s) (iP b a) (decide (cW b (a+3)%2=1)) (((((l.Aa 5<|.A s).Aa 3<|.A<|iP b a).Aa 4<|.E (decide (cW b (a+3)%2=1))).Aa 1<|.A<|cW b a).Aa 2<|.A (a+s:Nat)) (H++w) ⟨Q.h0,rfl,rfl,rfl,rfl⟩ u nA h) λl' B q=>?_;haveI st:au c te l H=.ok (.Aa,((((l.Aa 5<|.A s).Aa 3<|.A<|iP b a).Aa 4<|.E (decide (cW b (a+3)%2=1))).Aa 1<|.A<|cW b a).Aa 2<|.A (a+s:Nat)) (H++w):=ah s1<|ah A<|ah L<|ah i<|ah (az<|M u (show(((l.Aa 5<|.A s).Aa 3 _).Aa 4 _) 0=_ from Q.h0) (show(((l.Aa 5<|.A s).Aa 3 _).Aa 4 _) 2=_ from Q.h2))<|ah (xU (x:=.A a) (show((((l.Aa 5<|.A s).Aa 3 _).Aa 4 _).Aa 1 _) 2=_ from Q.h2) (aa rfl) rfl) aV;refine fK l' (w++B) ?_;refine cI (Qn ..) ?_;exact q.imp (λq=>⟨kC t0 st q.1,q.2⟩) λq=>⟨kC t0 st q.1,q.2⟩
   ·rw [Qe e] at h;have i:aN c (.C (.I .Eq (.A 1)<|.B 44) [.A (.A 3)<|.G (.F 21) [.A 0,.A 2],.A (.A 4)<|.I .Eq (.E .BitAnd (.H (.A 0)<|.E .Add (.A 2)<|.B 3)<|.B 1)<|.B 1] []) (l.Aa 5<|.A s) H=.ok (.Aa,l.Aa 5<|.A s) H:=
     aH (am (aa (show(l.Aa 5 _) 1=_ from Q.h1)) rfl<|eq_f (n:=44) e)
    refine ip (J (cW b a) (a+s) p m (((l.Aa 5<|.A s).Aa 1<|.A<|cW b a).Aa 2<|.A (a+s:Nat)) H ⟨Q.h0,rfl,rfl,Q.h3,Q.h4⟩ f nA h) λl' B q=>?_;have st:au c te l H=.ok (.Aa,((l.Aa 5<|.A s).Aa 1<|.A<|cW b a).Aa 2<|.A (a+s:Nat)) H:=ah s1<|ah A<|ah L<|ah i<|ah (az<|M f (show(l.Aa 5<|.A s) 0=_ from Q.h0) (show(l.Aa 5<|.A s) 2=_ from Q.h2))<|ah (xU (x:=.A a) (show((l.Aa 5<|.A s).Aa 1 _) 2=_ from Q.h2) (aa rfl) rfl) aV;exact fK l' B<|q.imp (λq=>⟨kC t0 st q.1,q.2⟩) λq=>⟨kC t0 st q.1,q.2⟩
end Mine
namespace Mine
def iQ(b:List UInt8):Option aD:=if 40<=b.length/\cW b 0/ 16=6 then mN b 100 (cW b 6) 40 0 false else some none
def gq(args:List V)(H:Hp):Option (bJ V):=(oW args).bind λv=>(bS v H).bind λb=>(iQ b).bind λr=>if b.length<=200 then some (.ok (bU r) H) else none
theorem yz{c:CF}(h:c 22=cU gq)(a:bS v H=some b)(d:b.length<=200)(e:iQ b=some r):c 22 [v] H=.ok (bU r) H:=
 eU h ((aw (f:=λb=>_) a).trans<|(aw e).trans<|Qh d)
theorem aey:∀r:aD,(bU r).J n=true
 |none=>rfl
 |some (_,_,_,_)=>rfl
theorem aex(k:c 20=cU iU)(o:c 21=cU gu):Ct c 22 gq:=by
 intro args H r w _ h;revert h;refine dy λv y h=>?_;revert h;refine dy λb p h=>?_;revert h;refine dy λq f h=>?_;revert h;refine ey λs h=>?_;injection h with z7;subst z7;refine af (gA y) ?_;have a:∀{l:Lc},l 0=some v->ak c (.K "len" [.A 0]) l H=.ok (.A b.length) H:=λz=>bh (ae (aa z) aj)<|gh p<|Qa s lb
 by_cases d:b.length<40
 ·rw [show iQ b=some none from Qe λx=>Nat.not_le.mpr d x.1] at f;haveI A:=Qb f;subst A;refine .inl<|QR ?_;apply aE (fd:=fX) (vs:=[v]) rfl rfl;exact bb<|aK (cu<|am (a rfl) rfl<|abF (n:=40) d)<|aI rfl
 have d:=QW d;haveI t:∀i:Nat,i<40->nZ v (.A i) H=.ok (.A<|cW b i) H:=λi B=>jj p (Qr B d)<|Qa s lb
 by_cases g:cW b 0/ 16=6
 case neg=>
  rw [show iQ b=some none from Qe λx=>g x.2] at f;haveI C:=Qb f;subst C;refine .inl<|QR ?_;apply aE (fd:=fX) (vs:=[v]) rfl rfl;exact bb<|aK (bD (am (a rfl) rfl<|vk (n:=40) d)<|cu (d:=false)<|am (aq (aJ (aa rfl) rfl<|t 0 lb) rfl<|pd (q:=4)) rfl<|anm (m:=cW b 0/ 16) (n:=6) g)<|aI rfl
 rw [show iQ b=_ from Qh ⟨d,g⟩] at f;have s1:aN c (.C (.P false [.I .Lt (.K "len" [.A 0])<|.B 40,.I .NotEq (.E .RShift (.H (.A 0)<|.B 0)<|.B 4)<|.B 6]) [.B .J] []) (λj=>[v][j]?) H=.ok (.Aa,λj=>[v][j]?) H:=
  aH (bD (am (a rfl) rfl<|vk (n:=40) d)<|bD (am (aq (aJ (aa rfl) rfl<|t 0 lb) rfl<|pd (q:=4)) rfl<|alA (m:=cW b 0/ 16) (n:=6) g) fL)
 have u:aN c (.A (.A 1)<|.H (.A 0)<|.B 6) (λj=>[v][j]?) H=.ok (.Aa,Lc.Aa (λj=>[v][j]?) 1<|.A<|cW b 6) H:=az<|aJ (aa rfl) rfl<|t 6 lb;refine ip (amN k o s 100 (cW b 6) 40 0 false ((((Lc.Aa (λj=>[v][j]?) 1<|.A<|cW b 6).Aa 2<|.A 40).Aa 3<|.A 0).Aa 4<|.E false) H ⟨rfl,rfl,rfl,rfl,rfl⟩ p nA f) λl' G q=>?_;refine jn (ij (G:=G) w (Qd _)<|aey _) ?_;rcases q with ⟨e,rfl⟩|⟨e,D,E,F,I,Q,rfl⟩
 ·apply aE (fd:=fX) (vs:=[v]) rfl rfl;exact ah s1<|ah u<|ah (az rfl)<|ah (az rfl)<|ah (az rfl)<|bb e
 ·apply aE (fd:=fX) (vs:=[v]) rfl rfl;exact ah s1<|ah u<|ah (az rfl)<|ah (az rfl)<|ah (az rfl)<|ah e<|aI<|bf<|ae (aa Q.h1)<|ae (aa Q.h2)<|ae (aa Q.h3)<|ae (aa Q.h4) aj
end Mine
end
section
open PySem PySem.W
namespace Mine
section
section
variable {c:CF} {l l':Lc} {H H0 H1 H2:Hp} {L L':List O} {u v:V} {e:X} {i k:Nat} {a cn:Str} {fs:List (Str×V)} {args vs:List V} {fd:FD}
theorem bn:(H++L)[H.length+k]?=L[k]?:=by(refine af (QE (Qq _ _) ..) ?_;exact af (ZG ..) rfl)
theorem fO:(H++L).set (H.length+k) o=H++L.set k o:=by(exact af (List.set_append_right _ _ (Qq _ _) ..)<|af (ZG ..) rfl)
theorem pM(b:L.length=k)(h:L++[o]=L'):jp o (H++L)=.ok (.B<|H.length+k) (H++L'):=by
 subst b h;show bJ.ok (V.B (H++L).length) ((H++L)++[o])=_;exact af (Qi ..)<|af (Qn ..) rfl
theorem bO(h:H[i]?=some o):bX i H=.ok o H:=by show(Option.elim H[i]? .Ab λo=>bJ.ok o H)=_;exact af h rfl
theorem lu(h:H[i]?=some o):ml i o' H=.ok () (H.set i o'):=Qh (Qg.mp h).1
theorem qW(h:H[i]?=some (.C cn fs))(b:jq cn=true)(d:fs.length<100):ki (.B i) a u H=.ok () (H.set i<|.C cn<|bz a u fs):=by
 show(bX i H).Aa _=_;exact af (bO h)<|(bT ⟨b,d⟩).trans<|lu h
theorem fy(h:H[i]?=some (.C cn fs))(b:aB a fs=some v):kh (.B i) a H=.ok v H:=by
 show(bX i H).Aa _=_;refine af (bO h) ?_;show cs (aB a fs) _ H=_;exact af b rfl
theorem lO(b:l i=some (.B k))(d:ak c e l H=.ok u H1)(f:H1[k]?=some (.C cn fs))(g:jq cn=true)(h:fs.length<100)(j:H1.set k (.C cn<|bz a u fs)=H2):aN c (.A (.C (.A i) a) e) l H=.ok (.Aa,l) H2:=
 cm d (by
  show(ak c (.A i) l H1).Aa _=_;refine af (aa b) ?_;show(ki (.B k) a u H1).Aa _=_;exact af (qW f g h)<|af j rfl)
theorem agm(b:l i=some (.B<|H0.length+k))(d:ak c e l H=.ok u (H0++L))(f:L[k]?=some (.C cn fs))(g:jq cn=true)(h:fs.length<100)(j:L.set k (.C cn<|bz a u fs)=L'):aN c (.A (.C (.A i) a) e) l H=.ok (.Aa,l) (H0++L'):=
 lO b d (bn.trans f) g h (by(exact af fO<|af j rfl))
theorem se(b:jQ i=none)(d:oh i=some (j,cn))(f:jQ j=some fd)(g:oa fd (.B H.length::args)=some vs)(h:au c fd.Aa (λj=>vs[j]?) (H++[.C cn []])=.ok (.Aa,l') H1):aM c i args H=.ok (.B H.length) H1:=by
 show(Option.elim (jQ i) (cs (oh i) _) _:AM V) H=_;refine af b<|af d ?_;show cs (jQ j) _ H=_;refine af f ?_;show(zf c fd (.B H.length::args)<|H++[.C cn []]).Aa _=_;refine af (show zf c fd (.B H.length::args) (H++[.C cn []])=.ok .C H1 from by
  show cs (oa fd _) _ _=_;rw [g];show(au c fd.Aa (λj=>vs[j]?) _).Aa _=_;rw [h];rfl) ?_
 rfl
theorem ly(h:H[i]?=some (.B es ep))(b:es.length<=16777216):fQ (.B i) (.D a) u H=.ok () (H.set i<|lP a u es ep):=by
 show(bX i H).Aa _=_;exact af (bO h)<|(bT (p:=cx es.length) b).trans<|lu h
end
theorem dM(es:List (Str×V)):(bz x v es).length<=es.length+1:=by
 induction es with
 |nil=>exact Qd _
 |cons u r b=>
  show(if u.1=x then(u.1,v)::r else u::bz x v r).length<=_
  by_cases q:u.1=x
  ·exact af (Qh q)<|Nat.le_succ _
  ·exact af (Qe q)<|QQ b
noncomputable abbrev DP:=List (Str×V)×Option Nat
def DP.Aa(d:DP)(x:Str)(v:V):DP:=(bz x v d.1,if vi x d.1 then d.2 else d.2.map (·+1))
noncomputable abbrev DP.o(d:DP):O:=.B d.1 d.2
theorem aaU{xs:List V}{key:V->Str}{val:V->V}(s:xs.length<=1000)(b:∀k H',dO v k H'=.ok xs[k]? H')(w:lf v=λ_=>dO v)
 (hs:∀x∈xs,∀(d:DP) (l:Lc),d.1.length<=1000->l 0=some (.B H.length)->∃h j,jc c t x l (H++[d.o])=.ok h (H++[d.o])/\au c sb h (H++[d.o])=.ok (.Aa,j) (H++[(d.Aa (key x)<|val x).o])/\j 0=l 0)
 (f:DP)(y:f.1.length=0)(l:Lc)(z:l 0=some (.B H.length)):
 ∃l',jK c t (lf v<|H++[f.o]) (au c sb) 1001 0 l (H++[f.o])=.ok (.Aa,l') (H++[(xs.foldl (λd x=>d.Aa (key x)<|val x) f).o])/\l' 0=some (.B H.length):=by
 refine af w ?_;obtain⟨l',H',e,A,r,E⟩:=gR (c:=c) (t:=t) (src:=dO v) (step:=au c sb) (n:=xs.length) (λk m H'=>m 0=some (.B H.length)/\H'=H++[((xs.take k).foldl (λd x=>DP.Aa d (key x)<|val x) f).o]/\((xs.take k).foldl (λd x=>DP.Aa d (key x)<|val x) f).1.length<=k) (λk=>xs[k]?.getD .C)
  (λk m H' n o=>gx o λp p2 q=>by
   haveI g:=Qw n;refine af g ?_;refine af p2 ?_;refine dN (hs xs[k] (List.getElem_mem n) _ m (Qa q<|Qa (Zq n) s) p) λh j B C D=>?_;refine⟨by(refine af (b ..) ?_;refine af (g ..) ?_);rfl,h,_,j,_,B,C,by refine af D ?_;exact p,?_,?_⟩<;>(refine af (List.take_succ_eq_append_getElem n) ?_;refine af ZK ?_)
   ·rfl
   ·exact Qa (dM _)<|QQ q)
  (λm H' o=>gx o λp p2 q=>by(refine af (b ..) ?_;exact af (List.getElem?_eq_none (Qd _) ..) rfl)) 1001 0 l (H++[f.o]) (QO _) (Nat.lt_succ_of_le ‹_›) ⟨z,rfl,Qk y⟩
 rw [List.take_length] at r;exact bv l' (by(refine af e ?_;exact af r rfl)) A
theorem wa{d:DP}(b:l 0=some (.B H.length))(f:d.1.length<=1000)(g:ak c i l (H++[d.o])=.ok (.D w) (H++[d.o]))(h:ak c e l (H++[d.o])=.ok x (H++[d.o])):
 aN c (.A (.B (.A 0) i) e) l (H++[d.o])=.ok (.Aa,l) (H++[(d.Aa w x).o]):=cm h (by
 show(ak c (.A 0) l _).Aa _=_;refine af (aa b) ?_;show(ak c i l _).Aa _=_;refine af g ?_;show(fQ (.B H.length) (.D w) x _).Aa _=_;exact af (ly (es:=d.1) (ep:=d.2) (bn (k:=0))<|Qa f lb)<|af (show(H++[d.o]).set H.length (lP w x d.1 d.2)=H++[(d.Aa w x).o] from fO (k:=0)) rfl)
noncomputable def ahf:List Str:=["mark","priority","iif","oif","iifname","oifname","pkttype"]
def amO:DP:=(ahf.map V.D).foldl (λd x=>d.Aa (vC "" x (str:=id))<|.A 0) ([],some 0)
def eT:O:=((amO.Aa "iiftype"<|.A 1).Aa "oiftype"<|.A 1).o
def jl(args:List V)(H:Hp):Option (bJ V):=if args.isEmpty then some (.ok (.B H.length)<|H++[eT]) else none
theorem agn{c:CF}(h:c 24=cU jl):c 24 [] H=.ok (.B H.length) (H++[eT]):=eU h rfl
theorem ahd(c:CF):Ct c 24 jl:=by
 intro args H r _ _ h;unfold jl at h;revert h;refine ey λb h=>?_;haveI f:=Qb h;subst f;refine af (List.isEmpty_iff.mp b)<|.inl<|QR ?_;refine aT (aaU (c:=c) (t:=.A 1) (v:=.F<|ahf.map .D) (sb:=[.A (.B (.A 0)<|.A 1)<|.B 0]) (H:=H) (xs:=ahf.map .D) (key:=λx=>vC "" x (str:=id)) (val:=λ_=>.A 0) lb (λk H'=>rfl) rfl (λx g d l m n=>by
  refine aT (Zz.mp g) λw _ o=>?_;subst o;exact qe (l.Aa 1<|.D w) (l.Aa 1<|.D w) rfl (ah (wa n m (aa rfl) rfl) aV) rfl) ([],some 0) rfl (Lc.Aa (λj=>([]:List V)[j]?) 0<|.B H.length) rfl) λl' e q=>?_
 apply aE (fd:=jw) (vs:=[]) rfl rfl;refine ah (az rfl)<|ah (eF rfl e) ?_;exact ah (wa q (by decide+kernel) rfl rfl)<|ah (wa q (by decide+kernel) rfl rfl)<|aI<|aa q
end
theorem gC(es:List (Str×V)):aB x (bz x v es)=some v:=by
 induction es with
 |nil=>exact Qh rfl
 |cons u r a=>
  show aB x (if u.1=x then(u.1,v)::r else u::bz x v r)=_
  by_cases h:u.1=x
  ·exact af (Qh h)<|Qh h
  ·exact af (Qe h)<|(Qe h).trans a
theorem aX(h:y≠x)(es:List (Str×V)):aB x (bz y v es)=aB x es:=by
 induction es with
 |nil=>exact Qe h
 |cons u r b=>
  show aB x (if u.1=y then(u.1,v)::r else u::bz y v r)=_
  by_cases q:u.1=y
  ·exact af (Qh q)<|(Qe<|q ▸h).trans (Qe<|q ▸h).symm
  ·refine af (Qe q) ?_
   by_cases a:u.1=x
   ·exact(Qh a).trans (Qh a).symm
   ·exact(Qe a).trans<|b.trans (Qe a).symm
def eA(kind:Nat)(b:List UInt8):Option aD:=if kind=2048 then some (ji b) else if kind=34525 then iQ b else some none
def aaV(fs:List (Str×V)):List (Str×V):=bz "place" (.A 0)<|bz "off" (.A<|-1)<|bz "l4" (.A<|-1) fs
noncomputable def xq(fs:List (Str×V))(n:Nat):aD->List (Str×V)
 |none=>aaV fs
 |some (k,a,p,_)=>if p=0/\a<=n then bz "off" (.A a) (bz "place" (.A p)<|bz "l4" (.A k)<|aaV fs) else bz "place" (.A p) (bz "l4" (.A k)<|aaV fs)
def xA(v:V):Option Nat:=vC none v (ref:=some)
theorem mD(h:xA v=some i):v=.B i:=by
 cases v with
 |B _=>haveI h:=Qb h;subst h;rfl
 |_=>exact ar h
def abH(o:O):Option (Str×List (Str×V)):=oC none o (inst:=λc fs=>some (c,fs))
theorem qL(h:abH o=some p):o=.C p.1 p.2:=by
 cases o with
 |C _ _=>haveI h:=Qb h;subst h;rfl
 |_=>exact ar h
def jS(args:List V)(H:Hp):Option (bJ V):=(oW args).bind λv=>(xA v).bind λi=>H[i]?.bind λo=>(abH o).bind λp=>((aB "kind" p.2).bind dq).bind λkind=>((aB "data" p.2).bind λd=>bS d H).bind λb=>(eA kind b).bind λr=>
 if jq p.1=true/\p.2.length<90/\b.length<=200 then some (.ok .C<|H.set i<|.C p.1<|xq p.2 b.length r) else none
theorem ago{c:CF}{i kind:Nat}(h:c 25=cU jS)(a:H[i]?=some (.C cn fs))(e:aB "kind" fs=some (.A kind))(f:aB "data" fs=some d)(g:bS d H=some b)(j:eA kind b=some r)(k:jq cn=true/\fs.length<90/\b.length<=200):
 c 25 [.B i] H=.ok .C (H.set i<|.C cn<|xq fs b.length r):=
 eU h ((aw (f:=λo=>_) a).trans<|(aw (a:=kind)<|by show(aB "kind" fs).bind dq=_;exact af e<|bZ kind).trans<|(aw (a:=b)<|by show((aB "data" fs).bind λd=>bS d H)=_;exact af f g).trans<|(aw j).trans<|Qh k)
theorem yZ(h:bS v H=some b)(a:H[i]?=some (.C cn fs)):bS v (H.set i<|.C cn fs')=some b:=by
 rcases ib h with rfl|⟨j,rfl,e⟩
 ·rfl
 ·have:i≠j:=λq=>by rw [q,e] at a;haveI c:=Qb a;injection c
  show((H.set i<|.C cn fs')[j]?.bind iJ)=_;refine af (QA this) ?_;exact af e rfl
theorem nF{H:Hp}(a:H[i]?=some o):(H.set i o')[i]?=some o':=by
 exact af (QX (Qg.mp a).1) rfl
theorem ahe{c:CF}(a6:c 18=cU (pX iR))(a7:c 22=cU gq):Ct c 25 jS:=by
 intro args H r _ _ h;revert h;refine dy λv h1 h=>?_;revert h;refine dy λi h2 h=>?_;revert h;refine dy λo C h=>?_;revert h;refine dy λz4 h4 h=>?_;obtain⟨cn,fs⟩:=z4;revert h;refine dy λkind J h=>?_;revert h;refine dy λb R h=>?_;revert h;refine dy λq D h=>bo J λkv J K=>bo R λd R L=>?_;revert h;refine ey λhl h=>?_;injection h with z5;subst z5;refine af (gA h1)<|af (mD h2) ?_;rw [qL h4] at C;rw [bQ K] at J;clear h1 h2 h4 K;refine gx hl λf g y=>?_;clear hl;dsimp only at f g y C J R ⊢;refine .inl<|QR ?_;haveI c6:i<H.length:=(Qg.mp C).1;generalize n:bz (Str.ofString "l4") (V.A<|-1) fs=U;generalize s:bz (Str.ofString "off") (V.A<|-1) U=W;generalize A:bz (Str.ofString "place") (V.A 0) W=t;have hb:aaV fs=t:=by unfold aaV;exact af n<|af s<|af A rfl
 have M:U.length<=fs.length+1:=n ▸dM fs;have Y:W.length<=U.length+1:=s ▸dM U;have l3:t.length<=W.length+1:=A ▸dM W;have k3:aB "kind" t=some (.A kind):=by subst n s A;exact af (aX (by decide+kernel) ..)<|af (aX (by decide+kernel) ..)<|af (aX (by decide+kernel) ..) J
 have d3:aB "data" t=some d:=by subst n s A;exact af (aX (by decide+kernel) ..)<|af (aX (by decide+kernel) ..)<|af (aX (by decide+kernel) ..) R
 have N:(H.set i<|.C cn t)[i]?=some (.C cn t):=nF C;haveI o3:=yZ (fs':=t) L C;have Z:∀{P l},l 0=some (.B i)->au c (gy.Aa.drop 3) l (H.set i<|.C cn t)=P->au c gy.Aa l H=P:=λw hr=>
  ah (lO w (jL rfl) C f (Qr ‹_› lb) rfl) (ah (lO w (jL rfl) (nF C) f (by exact af n<|eJ<|Qa M<|Qf (Qm g)<|Qd 1)<|by(exact af (Ze ..)<|af (n ..) rfl))<|ah (lO w rfl (nF C) f (by exact af s<|eJ<|Qa Y<|QQ<|Qa M g)<|by(exact af (Ze ..)<|af (s ..)<|af (A ..) rfl)) hr)
 generalize hH:H.set i (.C cn t)=G at N o3 Z;have ek:∀{l:Lc},l 0=some (.B i)->ak c (.L (.A 0) "kind") l G=.ok (.A kind) G:=λw=>jT (aa w)<|fy N k3;haveI ed:∀{l:Lc},l 0=some (.B i)->ak c (.L (.A 0) "data") l G=.ok d G:=λw=>jT (aa w)<|fy N d3;have s4:aN c (.C (.I .Eq (.L (.A 0) "kind")<|.B 2048) [.A (.A 1)<|.G (.F 18) [.L (.A 0) "data"]] [.C (.I .Eq (.L (.A 0) "kind")<|.B 34525) [.A (.A 1)<|.G (.F 22) [.L (.A 0) "data"]] []]) (Lc.Aa (λj=>[V.B i][j]?) 1 .C) G=.ok (.Aa,Lc.Aa (Lc.Aa (λj=>[V.B i][j]?) 1 .C) 1<|bU q) G:=by
  unfold eA at D
  by_cases a1:kind=2048
  ·rw [Qh a1] at D;haveI z6:=Qb D;subst z6;exact aK (am (ek rfl) rfl<|eq_t (n:=2048) a1)<|ah (az<|av (ae (ed rfl) aj)<|abZ a6 o3 y) aV
  rw [Qe a1] at D;refine pS (am (ek rfl) rfl<|eq_f (n:=2048) a1) ?_
  by_cases a2:kind=34525
  ·rw [Qh a2] at D;exact ah (aK (am (ek rfl) rfl<|eq_t (n:=34525) a2)<|ah (az<|av (ae (ed rfl) aj)<|yz a7 o3 y D) aV) aV
  ·rw [Qe a2] at D;haveI z7:=Qb D;subst z7;haveI e:(Lc.Aa (Lc.Aa (λj=>[V.B i][j]?) 1 .C) 1 .C)=Lc.Aa (λj=>[V.B i][j]?) 1 .C:=by
    funext j
    show(if j=1 then some V.C else if j=1 then some V.C else _)=if j=1 then some V.C else _
    split<;>rfl
   exact af (show bU none=V.C from rfl)<|af e<|ah (aH<|am (ek rfl) rfl<|eq_f (n:=34525) a2) aV
 cases q with
 |none=>
  apply aE (fd:=gy) (vs:=[.B i]) rfl rfl;refine Z rfl<|ah (az rfl)<|ah s4 ?_;exact af (show xq fs b.length none=t from hb)<|af hH<|bb<|aK (am (aa rfl) rfl rfl)<|aI rfl
 |some q=>
  obtain⟨k,a,p,m⟩:=q;generalize u:bz (Str.ofString "l4") (V.A k) t=f4;generalize B:bz (Str.ofString "place") (V.A p) f4=E;have l4:f4.length<=t.length+1:=u ▸dM t;haveI l5:E.length<=f4.length+1:=B ▸dM f4;have d5:aB "data" E=some d:=by subst u B;exact af (aX (by decide+kernel) ..)<|af (aX (by decide+kernel) ..) d3
  have o5:=yZ (fs':=E) L C;have F:∀{l:Lc} {H':Hp} {v:V} {j:Nat},l 1=some (.F [.A k,.A a,.A p,.E m])->cs (idx j 4) (λj=>cs ([V.A k,.A a,.A p,.E m][j]?) AM.Ab) H'=.ok v H'->ak c (.H (.A 1)<|.B j) l H'=.ok v H':=λw e=>aJ (aa w) rfl e;have Q:∀{P l},l 0=some (.B i)->l 1=some (.F [.A k,.A a,.A p,.E m])->au c (gy.Aa.drop 8) l (H.set i<|.C cn E)=P->au c (gy.Aa.drop 5) l G=P:=λw I hr=>
   ah (aH<|am (aa I) rfl rfl) (ah (lO w (F (j:=0) I rfl) N f (eJ<|Qa l3<|QQ<|Qa Y<|QQ<|Qa M g) rfl)<|ah (lO w (F (j:=2) I rfl) (nF N) f (by exact af u<|eJ<|Qa l4<|QQ<|Qa l3<|QQ<|Qa Y<|QQ<|Qa M g)<|by(exact af (Ze ..)<|af (u ..)<|af (B ..)<|cI (hH ..)<|af (Ze ..) rfl)) hr)
  have g5:(H.set i<|.C cn E)[i]?=some (.C cn E):=nF C
  by_cases z:p=0/\a<=b.length
  ·refine af (show xq fs b.length (some (k,a,p,m))=bz "off" (.A a) E from(Qh z).trans<|by rw [hb,u,B]) ?_;apply mP (fd:=gy) (vs:=[.B i]) rfl rfl;refine Z rfl<|ah (az rfl)<|ah s4<|Q rfl rfl ?_;exact ah (aK (bD (am (F (j:=2) rfl rfl) rfl<|eq_t (n:=0) z.1)<|bD (am (F (j:=1) rfl rfl) (bh (ae (jT (aa rfl)<|fy g5 d5) aj)<|gh o5<|Qa y lb)<|abL<|dh<|Int.ofNat_le.mpr z.2) fL)<|ah (lO rfl (F (j:=1) rfl rfl) g5 f (eJ<|Qa l5<|QQ<|Qa l4<|QQ<|Qa l3<|QQ<|Qa Y<|QQ<|Qa M g)<|Ze ..) aV) aV
  ·refine af (show xq fs b.length (some (k,a,p,m))=E from(Qe z).trans<|by rw [hb,u,B]) ?_;apply mP (fd:=gy) (vs:=[.B i]) rfl rfl;refine Z rfl<|ah (az rfl)<|ah s4<|Q rfl rfl ?_;refine ah (aH ?_) aV
   by_cases z0:p=0
   ·exact bD (am (F (j:=2) rfl rfl) rfl<|eq_t (n:=0) z0)<|cu (d:=true)<|am (F (j:=1) rfl rfl) (bh (ae (jT (aa rfl)<|fy g5 d5) aj)<|gh o5<|Qa y lb)<|abL<|cy λx=>z ⟨z0,Int.ofNat_le.mp x⟩
   ·exact cu (d:=true)<|am (F (j:=2) rfl rfl) rfl<|eq_f (n:=0) z0
noncomputable def l4V:aD->V|none=>.A (-1)|some (k,_,_,_)=>.A k
noncomputable def hU:aD->V|none=>.A 0|some (_,_,p,_)=>.A p
noncomputable def tQ(n:Nat):aD->V|none=>.A (-1)|some (_,a,p,_)=>if p=0/\a<=n then .A a else .A (-1)
noncomputable def pkF(n kind:Nat)(c b a:V):List (Str×V):=[("data",.B<|n+1),("link",.B<|n+2),("kind",.A kind),("l4",c),("off",b),("place",a),("meta",.B<|n+3)]
def gH(n kind:Nat)(b a:List UInt8)(r:aD):List O:=[.C "Packet"<|pkF n kind (l4V r) (tQ b.length r)<|hU r,.D b,.D a,eT]
theorem abD(n kind m:Nat)(r:aD):xq (pkF n kind (.A<|-1) (.A<|-1)<|.A 0) m r=pkF n kind (l4V r) (tQ m r) (hU r):=by
 match r with
 |none=>kernel_rfl
 |some (k,a,p,q)=>
  by_cases h:p=0/\a<=m
  ·exact af (show tQ m (some (k,a,p,q))=.A a from Qh h)<|(Qh h).trans (by kernel_rfl)
  ·exact af (show tQ m (some (k,a,p,q))=.A (-1) from Qe h)<|(Qe h).trans (by kernel_rfl)
def lm(v:V):Option (List UInt8):=vC none v (bytes:=some)
theorem gc(h:lm v=some b):v=.G b:=by
 cases v with
 |G _=>haveI h:=Qb h;subst h;rfl
 |_=>exact ar h
def gz(args:List V)(H:Hp):Option (bJ V):=(uU args).bind λp=>(lm p.1).bind λb=>(dq p.2.1).bind λkind=>(lm p.2.2).bind λa=>if b.length<=200/\a.length<=200 then some (.ok (.B H.length)<|H++[.C "Packet"<|pkF H.length kind (.A<|-1) (.A<|-1)<|.A 0,.D b,.D a,eT]) else none
theorem aan{c:CF}{kind:Nat}(h:c 62=cU gz)(d:b.length<=200)(e:a.length<=200):c 62 [.G b,.A kind,.G a] H=.ok (.B H.length) (H++[.C "Packet"<|pkF H.length kind (.A<|-1) (.A<|-1)<|.A 0,.D b,.D a,eT]):=
 eU h ((aw (o:=dq<|.A kind) (f:=λk=>_)<|bZ kind).trans<|Qh ⟨d,e⟩)
theorem xr(a:l i=some (.G b))(d:b.length<=200)(e:L.length=k)(f:L++[.D b]=L'):ak c (.K "bytearray" [.A i]) l (H++L)=.ok (.B<|H.length+k) (H++L'):=
 bh (ae (aa a) aj) ((bT (p:=cx b.length)<|Qa d lb).trans<|pM e f)
def mk(l:List (Str×V)):List (Str×V):=l.foldl (λfs p=>bz p.1 p.2 fs) []
theorem aiM(l:List (Str×V)):(mk l).length<=l.length:=by
 haveI:∀(l fs:List (Str×V)),(l.foldl (λfs p=>bz p.1 p.2 fs) fs).length<=fs.length+l.length:=by
  intro l
  induction l with
  |nil=>intro fs;exact Qd _
  |cons p l a=>intro fs;haveI:=a<|bz p.1 p.2 fs;haveI:=dM (x:=p.1) (v:=p.2) fs;simp only [List.foldl_cons,QG];lia
 exact Qa (this l [])<|Qk<|Nat.zero_add _
theorem bk(b:l i=some (.B H0.length))(d:ak c e l H=.ok u (H0++L))(f:L[0]?=some (.C cn<|mk ps))(g:jq cn=true)(h:decide (ps.length<100)=true)(j:L.set 0 (.C cn<|mk<|ps++[(a,u)])=L'):
 aN c (.A (.C (.A i) a) e) l H=.ok (.Aa,l) (H0++L'):=
 agm (k:=0) b d f g (Qv (aiM ps)<|Ql h) (by refine cI j ?_;unfold mk;exact af ZK rfl)
theorem rZ{c:CF}(h:c g vs (H++L)=.ok (.B (H++L).length) ((H++L)++N))(a:L.length=k)(b:L++N=L'):c g vs (H++L)=.ok (.B<|H.length+k) (H++L'):=by
 exact af (h ..)<|af (Qi ..)<|af (Qn ..)<|af (a ..)<|af (b ..) rfl
theorem aao{c:CF}(d:c 24=cU jl):Ct c 62 gz:=by
 intro args H r _ _ h;revert h;refine dy λf g h=>?_;obtain⟨x,y,z⟩:=f;revert h;refine dy λb i h=>?_;revert h;refine dy λkind j h=>?_;revert h;refine dy λk l h=>?_;revert h;refine ey λe h=>?_;haveI m:=Qb h;subst m;obtain rfl:=gc i;obtain rfl:=bQ j;obtain rfl:=gc l;refine af (jY g)<|.inl<|QR ?_;apply se (fd:=mz) (j:=68 - 1) (cn:="Packet") (vs:=[.B H.length,.G b,.A kind,.G k]) rfl rfl rfl rfl;haveI a:jq "Packet"=true:=by decide+kernel
 refine ah (bk (ps:=[]) rfl (xr (k:=1) rfl e.1 rfl rfl) rfl a rfl rfl)<|ah (bk (ps:=[_]) rfl (xr (k:=2) rfl e.2 rfl rfl) rfl a rfl rfl)<|ah (bk (ps:=[_,_]) rfl (aa rfl) rfl a rfl rfl)<|ah (bk (ps:=[_,_,_]) rfl (jL rfl) rfl a rfl rfl)<|ah (bk (ps:=[_,_,_,_]) rfl (jL rfl) rfl a rfl rfl)<|ah (bk (ps:=[_,_,_,_,_]) rfl rfl rfl a rfl rfl)<|ah (bk (ps:=[_,_,_,_,_,_]) rfl (av aj<|rZ (k:=3) (agn d) rfl rfl) rfl a rfl ?_) aV
 kernel_rfl
def sf(l:List V):Option (List UInt8×Nat×List UInt8):=match l with
 |[]=>none
 |b::r=>(lm b).bind λb=>match r with
  |[]=>some (b,2048,[])
  |k::r=>(dq k).bind λk=>match r with
   |[]=>some (b,k,[])
   |a::r=>(lm a).bind λa=>match r with
    |[]=>some (b,k,a)
    |_::_=>none
theorem sg(h:sf l=some p):oa fu l=some [.G p.1,.A p.2.1,.G p.2.2]:=by
 cases l with
 |nil=>exact ar h
 |cons b r=>
  revert h;refine dy λb a h=>af (gc a) ?_
  cases r with
  |nil=>injection h with h;subst h;rfl
  |cons k r=>
   revert h;refine dy λk c h=>af (bQ c) ?_
   cases r with
   |nil=>injection h with h;subst h;rfl
   |cons d r=>
    revert h;refine dy λd e h=>af (gc e) ?_
    cases r with
    |nil=>injection h with h;subst h;rfl
    |cons _ _=>exact ar h
def cG(args:List V)(H:Hp):Option (bJ V):=(sf args).bind λp=>(eA p.2.1 p.1).bind λr=>if p.1.length<=200/\p.2.2.length<=200 then some (.ok (.B H.length)<|H++gH H.length p.2.1 p.1 p.2.2 r) else none
theorem jR{c:CF}(h:c 26=cU cG)(d:sf args=some (b,kind,a))(e:eA kind b=some r)(f:b.length<=200)(g:a.length<=200):c 26 args H=.ok (.B H.length) (H++gH H.length kind b a r):=
 eU h ((aw d).trans<|(aw e).trans<|Qh ⟨f,g⟩)
theorem sj{c:CF}(d:c 62=cU gz)(f:c 25=cU jS):Ct c 26 cG:=by
 intro args H r _ _ h;revert h;refine dy λi j h=>?_;obtain⟨b,kind,a⟩:=i;revert h;refine dy λq k h=>?_;revert h;refine ey λg h=>?_;haveI l:=Qb h;subst l;refine .inl<|QR ?_;haveI e:=ago (H:=H++[.C "Packet"<|pkF H.length kind (.A<|-1) (.A<|-1)<|.A 0,.D b,.D a,eT]) (i:=H.length) (kind:=kind) (cn:="Packet") (fs:=pkF H.length kind (.A<|-1) (.A<|-1)<|.A 0) (d:=.B<|H.length+1) (b:=b) (r:=q) f (bn (k:=0)) (by kernel_rfl) (by kernel_rfl)
  (by show(H++[.C "Packet"<|pkF H.length kind (.A<|-1) (.A<|-1)<|.A 0,.D b,.D a,eT])[H.length+1]?.bind iJ=_;exact af bn rfl) k ⟨by decide+kernel,Ql rfl,g.1⟩
 rw [abD,show List.set (H++[.C "Packet"<|pkF H.length kind (.A<|-1) (.A<|-1)<|.A 0,.D b,.D a,eT]) H.length (.C "Packet"<|pkF H.length kind (l4V q) (tQ b.length q)<|hU q)=H++gH H.length kind b a q from fO (k:=0)] at e;apply aE (fd:=fu) (vs:=[.G b,.A kind,.G a]) rfl (sg j);exact ah (az<|av (ae (aa rfl)<|ae (aa rfl)<|ae (aa rfl) aj)<|aan d g.1 g.2)<|ah (jm<|av (ae (aa rfl) aj) e)<|aI<|aa rfl
noncomputable def ii(n g i:Nat):Nat:=if i<n then i else i+g
mutual
theorem xt(h:n<=m):∀v:V,v.J n=true->v.J m=true
 | .C,_| .E _,_| .A _,_| .D _,_| .G _,_| .I _,_| .H _,_=>rfl
 | .B _,b=>QY<|Qr (Ql b) h
 | .F l,b=>pN h l b
theorem pN(h:n<=m):∀l:List V,rX n l=true->rX m l=true
 |[],_=>rfl
 |v::l,b=>Qs.mpr ⟨xt h v (Qs.mp b).1,pN h l (Qs.mp b).2⟩
end
mutual
theorem abE(h:∀i,i<n->a i=i):∀v:V,v.J n=true->v.K a=v
 | .C,_| .E _,_| .A _,_| .D _,_| .G _,_| .I _,_| .H _,_=>rfl
 | .B i,b=>Qt V.B<|h i<|Ql b
 | .F l,b=>Qt V.F<|sk h l b
theorem sk(h:∀i,i<n->a i=i):∀l:List V,rX n l=true->adj a l=l
 |[],_=>rfl
 |v::l,b=>by
  show v.K a::adj a l=_;exact af (abE h v (Qs.mp b).1)<|af (sk h l (Qs.mp b).2) rfl
end
theorem tR(h:n<=m)(l:List (Str×V))(b:tM n l=true):tM m l=true:=Qx.mpr λp a=>xt h _<|Qx.mp b p a
theorem xu(h:∀i,i<n->a i=i)(l:List (Str×V))(b:tM n l=true):wX a l=l:=by
 conv=>rhs;rw [←List.map_id l]
 exact List.map_congr_left λp c=>by exact af (abE h _<|Qx.mp b p c) rfl
theorem aap(h:n<=m):∀o:O,o.E n=true->o.E m=true
 | .A l,b=>pN h l b
 | .B l _,b=>tR h l b
 | .D _,_=>rfl
 | .C _ fs,b=>tR h fs b
theorem adn(h:∀i,i<n->a i=i):∀o:O,o.E n=true->o.F a=o
 | .A l,b=>Qt O.A<|sk h l b
 | .B l ep,b=>by show O.B (wX a l) ep=_;exact af (xu h l b) rfl
 | .D _,_=>rfl
 | .C c fs,b=>by show O.C c (wX a fs)=_;exact af (xu h fs b) rfl
theorem pO(h:i<n):ii n g i=i:=Qh h
theorem sm:ii n g (n+i)=n+g+i:=(Qe<|QH.mpr<|Qq _ _).trans<|ZF _ _ _
theorem aaq(w:WfH H)(d:∀o∈N,o.E (H++N).length=true):Sub H.length (ii H.length G.length) (H++N) (H++(G++N.map (O.F<|ii H.length G.length))):=by
 refine⟨λi o e=>?_,λi j _ _ e=>?_,λi a=>pO a,by exact af Qi<|Qq _ _⟩
 ·by_cases a:i<H.length
  ·rw [Qj a] at e;haveI b:=w i o e;refine⟨?_,aap (by refine af Qi ?_;exact Qq _ _) o b⟩;refine af (pO a)<|af (Qj a) ?_;exact af e<|af (adn (λi h=>pO h) o b) rfl
  ·refine bC (Nat.le.dest<|QW a) λk c=>?_;subst c;rw [bn] at e;refine⟨?_,d o<|Zp e⟩;refine af (sm ..)<|af (Zt ..)<|af (bn ..)<|af (bn ..)<|af (QD ..) ?_;exact af (e ..) rfl
 ·unfold ii at e
  split at e<;>split at e<;>lia
theorem xv(w:WfH H)(a:∀o∈N,o.E (H++N).length=true)(b:v.J (H++N).length=true):wY H.length (.ok v<|H++N) (.ok (v.K<|ii H.length G.length)<|H++(G++N.map (O.F<|ii H.length G.length))):=
 .inr (qe _ _ rfl (aaq w a) b)
theorem ado(w:WfH H):wY H.length (.Ac k x H) (.Ac k x<|H++G):=.inr<|qc id (H++G) rfl<|xw w<|Qd _
def fF(b:List UInt8)(i:Nat):Nat:=cW b i*256+cW b (i+1)
noncomputable abbrev qg:=Nat×Nat×Nat×Nat
noncomputable def bp(t:qg):V:=.F [.A t.1,.A t.2.1,.A t.2.2.1,.A t.2.2.2]
noncomputable def uV(b:List UInt8):Nat->Nat->Nat->List qg->Option (Option<|List qg×Nat×Nat)
 | 0,_,_,_=>none
 |n+1,k,a,c=>if k=33024∨k=34984 then(if b.length<a+4 then some none else uV b n (fF b<|a+2) (a+4) (c++[(k,fF b a/ 8192,fF b a/ 4096%2,fF b a%4096)])) else some (some (c,k,a))
def jM(b:List UInt8):Option (Option<|List qg×Nat×Nat):=if b.length<14 then some none else uV b 100 (fF b 12) 14 []
noncomputable def hV(n tg sr k:Nat):O:=.C "Ether" [("target",.A tg),("source",.A sr),("tags",.B n),("kind",.A k)]
noncomputable def afa(H:Hp)(b:List UInt8):Option (List qg×Nat×Nat)->bJ V
 |none=>.Ac "BadPacket" "frame too short" H
 |some (c,k,a)=>.ok (.F [.B<|H.length+1,.A a])<|H++[.A<|c.map bp,hV H.length (aQ<|bM 0 6 b) (aQ<|bM 6 12 b) k]
def gf(args:List V)(H:Hp):Option (bJ V):=(oW args).bind λv=>(lm v).bind λb=>(jM b).bind λq=>if b.length<=200 then some (afa H b q) else none
theorem xy{c:CF}(h:c 23=cU gf)(a:jM b=some q)(d:b.length<=200):c 23 [.G b] H=afa H b q:=eU h<|(aw a).trans<|Qh d
theorem nz(h:a.length=vs.length)(k:oA c a vs l H=r):jc c (.D a) (.F vs) l H=r:=(bT (p:=a.length=vs.length) h).trans k
theorem oX:oW [a]=some a:=rfl
theorem eV:lp [a,b]=some (a,b):=rfl
theorem oY:uU [a,b,c]=some (a,b,c):=rfl
theorem oZ:xz [a,b,c,d]=some (a,b,c,d):=rfl
theorem xB:xA (.B i)=some i:=rfl
def gg(args:List V)(H:Hp):Option (bJ V):=(xz args).bind λp=>(dq p.1).bind λtg=>(dq p.2.1).bind λsr=>(xA p.2.2.1).bind λt=>(dq p.2.2.2).bind λk=>if t<H.length then some (.ok (.B H.length)<|H++[hV t tg sr k]) else none
theorem adp{c:CF}{tg sr t k:Nat}(h:c 61=cU gg)(a:t<H.length):c 61 [.A tg,.A sr,.B t,.A k] H=.ok (.B H.length) (H++[hV t tg sr k]):=
 eU h (by simp only [gg,oZ,Zn,bZ,xB,Qh a])
theorem adq(c:CF):Ct c 61 gg:=by
 intro args H r _ _ h;revert h;refine dy λb d h=>?_;obtain⟨x,y,z,u⟩:=b;revert h;refine dy λtg e h=>?_;revert h;refine dy λsr f h=>?_;revert h;refine dy λt g h=>?_;revert h;refine dy λk i h=>?_
 split at h
 case isFalse=>exact ar h
 injection h with z3;subst z3;obtain rfl:=bQ e;obtain rfl:=bQ f;obtain rfl:=mD g;obtain rfl:=bQ i;refine af (mE d)<|.inl<|QR ?_;apply se (fd:=oM) (j:=66) (cn:="Ether") (vs:=[.B H.length,.A tg,.A sr,.B t,.A k]) rfl rfl rfl rfl;haveI a:jq "Ether"=true:=by decide+kernel
 refine ah (bk (ps:=[]) rfl (aa rfl) rfl a rfl rfl)<|ah (bk (ps:=[_]) rfl (aa rfl) rfl a rfl rfl)<|ah (bk (ps:=[_,_]) rfl (aa rfl) rfl a rfl rfl)<|ah (bk (ps:=[_,_,_]) rfl (aa rfl) rfl a rfl ?_) aV
 kernel_rfl
noncomputable abbrev xC:List S:=[.C (.I .Lt (.K "len" [.A 0])<|.E .Add (.A 3)<|.B 4) [.F "BadPacket"<|.C "frame too short"] [],.A (.A 4)<|.G (.F 16) [.N (.A 0) (.A 3)<|.E .Add (.A 3)<|.B 2],.D<|.R (.A 1) "append" [.D [.A 2,.E .RShift (.A 4)<|.B 13,.E .BitAnd (.E .RShift (.A 4)<|.B 12)<|.B 1,.E .BitAnd (.A 4)<|.B 4095]],.A (.A 2)<|.G (.F 16) [.N (.A 0) (.E .Add (.A 3)<|.B 2)<|.E .Add (.A 3)<|.B 4],.A (.A 3)<|.E .Add (.A 3)<|.B 4]
structure LE_(l:Lc)(b:List UInt8)(n k a:Nat):Prop where
 h0:l 0=some (.G b)
 h1:l 1=some (.B n)
 h2:l 2=some (.A k)
 h3:l 3=some (.A a)
theorem aar{step:Lc->AM (Fl×Lc)}(h:a l H=.ok true H1)(b:step l H1=.Ac k x c):iq a step (n+1) l H=.Ac k x c:=by
 show(a l H).Aa _=_;refine af h ?_;show(step l H1).Aa _=_;exact af b rfl
theorem mF(h:H[i]?=some (.A xs))(a:xs.length<16777216):we (.B i) "append" [v] H=.ok .C (H.set i<|.A<|xs++[v]):=by
 show(bX i H).Aa _=_;refine af (bO h)<|(bT ⟨rfl,a⟩).trans ?_;show(ml i _ H).Aa _=_;exact af (lu h) rfl
theorem mG(h:H[i]?=some (.A xs)):wg (.B i) "append" H=.ok () H:=by
 show(bX i H).Aa _=_;exact af (bO h)<|bT (p:=(Str.ofString "append":Str)="append") rfl
theorem jB(a:wd x 0=some i)(c:wd y b.length=some j)(d:b.length<=16777216):kj (.G b) x y H=.ok (.G<|bM i j b) H:=by
 show cs (wd x 0) _ H=_;exact af a<|af c<|bT (p:=cx b.length) d
theorem vS{i:Nat}(f:c 16=cU bH)(h:l 0=some (.G b))(d:b.length<=200)(g:i+2<=b.length)(j:ak c a l H=.ok (.A i) H)(k:ak c e l H=.ok (.A (i+2:Nat)) H):
 ak c (.G (.F 16) [.N (.A 0) a e]) l H=.ok (.A<|fF b i) H:=by
 haveI m:kj (.G b) (.A i) (.A (i+2:Nat)) H=.ok (.G<|bM i (i+2) b) H:=jB (dW<|eJ<|Qa (Qq i 2)<|Qa g d) (dW<|eJ<|Qa g d)<|Qa d lb;exact af (show fF b i=aQ (bM i (i+2) b) from(vR g).symm)<|av (ae (dX (aa h) j k m) aj)<|mH (b:=bM i (i+2) b) f rfl (by unfold bM;refine af QK ?_;refine af QL ?_;exact Qa (Nat.sub_le ..)<|Qa (Nat.min_le_right ..) d)
theorem ame{b:List UInt8}(m:c 16=cU bH)(r:b.length<=200):∀n k a (d:List qg) (l:Lc) (H:Hp) q,LE_ l b H.length k a->d.length+n<=1000->uV b n k a d=some q->
 ∃l' f,match q with
  |none=>iq (bj c<|.I .In (.A 2)<|.D [.B 33024,.B 34984]) (au c xC) n l (H++[.A<|d.map bp])=.Ac "BadPacket" "frame too short" (H++[.A f])
  |some (f,v,w)=>iq (bj c<|.I .In (.A 2)<|.D [.B 33024,.B 34984]) (au c xC) n l (H++[.A<|d.map bp])=.ok (.Aa,l') (H++[.A<|f.map bp])/\LE_ l' b H.length v w:=by
 intro n
 induction n with
 |zero=>intro k a d l H q Q s h;exact ar h
 |succ n x=>
  intro k a d l H q Q s h;unfold uV at h;have o:∀{t:Bool},(([33024,34984]:List Int).any λj=>decide (j=(k:Int)))=t->bj c (.I .In (.A 2)<|.D [.B 33024,.B 34984]) l (H++[.A<|d.map bp])=.ok t (H++[.A<|d.map bp]):=λy=>am (aa Q.h2) rfl<|vT (c:=c) (l:=l) (e:=.B k) (xs:=[33024,34984]) rfl y
  by_cases p:k=33024∨k=34984
  case neg=>
   rw [Qe p] at h;haveI z:=Qb h;subst z;exact qc l ([]) (pP<|o<|by simp only [List.any_cons,List.any_nil,Bool.or_false,Bool.or_eq_false_iff,decide_eq_false_iff_not];exact⟨λq=>p<|.inl (ZJ q).symm,λq=>p<|.inr (ZJ q).symm⟩) Q
  rw [Qh p] at h;have t0:=o (t:=true) (by rcases p with rfl|rfl<;>rfl);haveI g:ak c (.K "len" [.A 0]) l (H++[.A<|d.map bp])=.ok (.A b.length) (H++[.A<|d.map bp]):=bh (ae (aa Q.h0) aj)<|gh rfl<|Qa r lb;haveI u:ak c (.E .Add (.A 3)<|.B 4) l (H++[.A<|d.map bp])=.ok (.A (a+4:Nat)) (H++[.A<|d.map bp]):=aq (aa Q.h3) rfl rfl
  by_cases i:b.length<a+4
  ·rw [Qh i] at h;haveI A:=Qb h;subst A;exact fK l (d.map bp)<|aar t0<|hW<|aK (am g u<|abF i)<|hW<|pb rfl
  rw [Qe i] at h;haveI i:=QW i;have B:fF b a<65536:=by unfold fF;exact eJ<|Qf (Nat.mul_le_mul_right 256<|Qm<|nA (b:=b) (i:=a))<|Qm<|nA (b:=b) (i:=a+1)
  have st:au c xC l (H++[.A<|d.map bp])=.ok (.Aa,((l.Aa 4<|.A<|fF b a).Aa 2<|.A<|fF b<|a+2).Aa 3<|.A (a+4:Nat)) (H++[.A<|(d++[(k,fF b a/ 8192,fF b a/ 4096%2,fF b a%4096)]).map bp]):=by
   refine ah (aH<|am g u<|vk i)<|ah (az<|vS m Q.h0 r (uz (d:=2) i) (aa Q.h3)<|aq (aa Q.h3) rfl rfl)<|ah (jm<|nB (aa (show(l.Aa 4 _) 1=_ from Q.h1)) (mG<|bn (k:=0)) (ae (bf<|ae (aa (show(l.Aa 4 _) 2=_ from Q.h2))<|ae (aq (aa rfl) rfl<|pd (q:=13))<|ae (aq (aq (aa rfl) rfl<|pd (q:=12)) rfl rfl)<|ae (aq (aa rfl) rfl rfl) aj) aj)<|mF (bn (k:=0))<|by refine af (QU ..) ?_;exact eJ<|Qa (Qq d.length<|n+1) s) ?_;refine af (show List.set (H++[O.A<|d.map bp]) H.length (.A<|d.map bp++[V.F [.A k,.A<|(fF b a:Int)/ 2^13,.A<|Builtin.bitAnd ((fF b a:Int)/ 2^12) 1,.A<|Builtin.bitAnd (fF b a) 4095]])=H++[.A<|(d++[(k,fF b a/ 8192,fF b a/ 4096%2,fF b a%4096)]).map bp] from by
    refine(fO (k:=0)).trans ?_;rw [ZL,show Builtin.bitAnd (fF b a:Int) 4095=((fF b a%4096:Nat):Int) from pQ _ 12,show Builtin.bitAnd ((fF b a:Int)/ 2^12) 1=((fF b a/ 4096%2:Nat):Int) from pQ (fF b a/ 4096) 1];rfl) ?_
   exact ah (az<|vS m (show(l.Aa 4 _) 0=_ from Q.h0) r (show a+2+2<=b.length from i) (aq (aa (show(l.Aa 4 _) 3=_ from Q.h3)) rfl rfl)<|aq (aa (show(l.Aa 4 _) 3=_ from Q.h3)) rfl rfl)<|ah (az<|aq (aa (show((l.Aa 4 _).Aa 2 _) 3=_ from Q.h3)) rfl rfl) aV
  refine ip (x (fF b<|a+2) (a+4) (d++[(k,fF b a/ 8192,fF b a/ 4096%2,fF b a%4096)]) (((l.Aa 4<|.A<|fF b a).Aa 2<|.A<|fF b<|a+2).Aa 3<|.A (a+4:Nat)) H q ⟨Q.h0,Q.h1,rfl,rfl⟩ (by(refine af Qi ?_;refine af List.length_singleton ?_);rw [Zt,ZI 1];exact s) h) λl' f e=>?_;refine fK l' f ?_
  match q,e with
  |none,e=>exact kC t0 st e
  |some (_,_,_),e=>exact⟨kC t0 st e.1,e.2⟩
theorem nC(a:jQ i=some fd)(b:oa fd args=some vs)(h:au c fd.Aa (λj=>vs[j]?) H=.Ac k x H'):aM c i args H=.Ac k x H':=by
 show(Option.elim (jQ i) _ _:AM V) H=_;refine af a ?_;show cs (oa fd args) _ H=_;refine af b ?_;show(au c fd.Aa (λj=>vs[j]?) H).Aa _=_;exact af h rfl
theorem abG{i j:Nat}(a:c 16=cU bH)(e:l 0=some (.G b))(d:b.length<=200)(f:i<2^62)(g:j<2^62):
 ak c (.G (.F 16) [.N (.A 0) (.B i)<|.B j]) l H=.ok (.A<|aQ<|bM i j b) H:=
 av (ae (dX (aa e) rfl rfl<|jB (dW f) (dW g)<|Qa d lb) aj) (mH (b:=bM i j b) a rfl<|by unfold bM;exact af QK<|af QL<|aU<|Qa (Nat.sub_le (min j b.length) i)<|Qa (Nat.min_le_right j b.length) d)
theorem adr(d:c 16=cU bH)(n:c 61=cU gg):Ct c 23 gf:=by
 intro args H r w _ h;revert h;refine dy λv s h=>?_;revert h;refine dy λb t h=>?_;revert h;refine dy λq m h=>?_;revert h;refine ey λi h=>?_;injection h with z1;subst z1;obtain rfl:=gc t;refine af (gA s) ?_;haveI f:∀{l:Lc},l 0=some (.G b)->ak c (.K "len" [.A 0]) l H=.ok (.A b.length) H:=λu=>bh (ae (aa u) aj)<|gh rfl<|Qa i lb
 by_cases g:b.length<14
 ·rw [show jM b=some none from Qh g] at m;haveI x:=Qb m;subst x;refine .inl<|QR ?_;exact nC (fd:=cR) (vs:=[.G b]) rfl rfl<|hW<|aK (am (f rfl) rfl<|abF (n:=14) g)<|hW<|pb rfl
 rw [show jM b=_ from Qe g] at m;have g:=QW g;have s1:aN c (.C (.I .Lt (.K "len" [.A 0])<|.B 14) [.F "BadPacket"<|.C "frame too short"] []) (λj=>[V.G b][j]?) H=.ok (.Aa,λj=>[V.G b][j]?) H:=aH<|am (f rfl) rfl<|vk (n:=14) g;haveI p:aN c (.A (.A 2)<|.G (.F 16) [.N (.A 0) (.B 12)<|.B 14]) (Lc.Aa (λj=>[V.G b][j]?) 1<|.B H.length) (H++[.A []])=.ok (.Aa,(Lc.Aa (λj=>[V.G b][j]?) 1<|.B H.length).Aa 2<|.A<|fF b 12) (H++[.A []]):=az<|vS d rfl i (i:=12) g rfl rfl;refine ip (ame d i 100 (fF b 12) 14 [] ((Lc.Aa (Lc.Aa (λj=>[V.G b][j]?) 1<|.B H.length) 2<|.A<|fF b 12).Aa 3<|.A 14) H q ⟨rfl,rfl,rfl,rfl⟩ lb m) λl' o e=>?_
 match q,e with
 |none,e=>
  exact jn (ado (G:=[.A o]) w)<|nC (fd:=cR) (vs:=[.G b]) rfl rfl<|ah s1<|ah (az<|cV aj)<|ah p<|ah (az rfl)<|hW e
 |some (y,k,a),e=>
  refine .inl<|QR ?_;refine aP e λe Q=>?_;haveI z:=adp (c:=c) (tg:=aQ<|bM 0 6 b) (sr:=aQ<|bM 6 12 b) (t:=H.length) (k:=k) (H:=H++[.A<|y.map bp]) n (by exact af Qi<|Nat.lt_succ_self _);apply aE (fd:=cR) (vs:=[.G b]) rfl rfl;refine ah s1<|ah (az<|cV aj)<|ah p<|ah (az rfl)<|ah e ?_;exact aI<|bf<|ae (av (ae (abG d Q.h0 i (i:=0) (j:=6) lb lb)<|ae (abG d Q.h0 i (i:=6) (j:=12) lb lb)<|ae (aa Q.h1)<|ae (aa Q.h2) aj)<|rZ (k:=1) z rfl rfl)<|ae (aa Q.h3) aj
noncomputable def xD(H:Hp)(b:List UInt8):Option (List qg×Nat×Nat)->Option (bJ V)
 |none=>some<|.Ac "BadPacket" "frame too short" H
 |some (c,k,a)=>(eA k<|bM a b.length b).bind λr=>if a<=200 then some (.ok (.B H.length)<|H++gH H.length k (bM a b.length b) (bM 0 a b) r) else none
def gi(args:List V)(H:Hp):Option (bJ V):=(oW args).bind λv=>(lm v).bind λb=>(jM b).bind λq=>if b.length<=200 then xD H b q else none
theorem xE{c:CF}(h:c 27=cU gi)(a:jM b=some q)(d:b.length<=200)(e:xD H b q=some r):c 27 [.G b] H=r:=eU h<|(aw a).trans<|(Qh d).trans e
theorem ads(n k:Nat)(b c:List UInt8)(r:aD):(gH n k b c r).map (O.F<|ii n 2)=gH (n+2) k b c r:=by
 haveI d:∀i,ii n 2 (n+i)=n+2+i:=λi=>sm;have e:(l4V r).K (ii n 2)=l4V r:=by match r with|none=>rfl|some (_,_,_,_)=>rfl
 have f:(hU r).K (ii n 2)=hU r:=by match r with|none=>rfl|some (_,_,_,_)=>rfl
 haveI g:(tQ b.length r).K (ii n 2)=tQ b.length r:=by
  match r with
  |none=>rfl
  |some (_,a,p,_)=>show(if _ then _ else _:V).K _=if _ then _ else _;split<;>rfl
 show [O.C "Packet" [("data",V.B<|ii n 2<|n+1),("link",V.B<|ii n 2<|n+2),("kind",.A k),("l4",(l4V r).K _),("off",(tQ b.length r).K _),("place",(hU r).K _),("meta",V.B<|ii n 2<|n+3)],.D b,.D c,eT.F _]=_;rw [d,d,d,e,f,g,show eT.F (ii n 2)=eT from by kernel_rfl];rfl
theorem aiN(n k:Nat)(b d:List UInt8)(r:aD):∀o∈gH n k b d r,o.E (n+4)=true:=by
 have e:(l4V r).J (n+4)=true:=by match r with|none=>rfl|some (_,_,_,_)=>rfl
 have f:(hU r).J (n+4)=true:=by match r with|none=>rfl|some (_,_,_,_)=>rfl
 have g:(tQ b.length r).J (n+4)=true:=by
  match r with
  |none=>rfl
  |some (_,a,p,_)=>show(if _ then _ else _:V).J _=true;split<;>rfl
 intro o c;rcases Qz.mp c with rfl|c
 ·show(decide (n+1<n+4)&&(decide (n+2<n+4)&&(true&&((l4V r).J _&&((tQ b.length r).J _&&((hU r).J _&&(decide (n+3<n+4)&&true)))))))=true;exact af e<|af f<|af g<|af (QY<|Nat.add_lt_add_left (by decide) n)<|af (QY<|Nat.add_lt_add_left (by decide) n)<|af (QY<|Nat.lt_succ_self<|n+3) rfl
 rcases Qz.mp c with rfl|c
 ·rfl
 rcases Qz.mp c with rfl|c
 ·rfl
 ·obtain rfl:=QM.mp c
  kernel_rfl
theorem adu(g:c 23=cU gf)(i:c 26=cU cG):Ct c 27 gi:=by
 intro args H r w _ h;revert h;refine dy λv o h=>?_;revert h;refine dy λb p h=>bo h λq s d=>?_;clear h;refine adt d λf d=>?_;obtain rfl:=gc p;refine af (gA o) ?_;haveI e:=xy (H:=H) g s f
 match q,d,e with
 |none,d,e=>
  haveI t:=Qb d;subst t;refine .inl<|QR ?_;refine nC (fd:=de) (vs:=[.G b]) rfl rfl<|hW ?_;show(ak c (.G (.F 23) [.A 0]) (λj=>[V.G b][j]?) H).Aa _=_;exact af (av (ae (aa rfl) aj) e) rfl
 |some (l,k,a),d,e=>
  refine bo d λq u m=>?_;clear d;revert m;refine ey λn m=>?_;injection m with z4;subst z4;haveI x:(bM a b.length b).length<=200:=by unfold bM;exact af QK<|af QL<|Qa (Nat.sub_le ..)<|Qa (Nat.min_le_right ..) f
  haveI y:(bM 0 a b).length<=200:=by unfold bM;exact af QK<|af QL<|aU<|Qa (Nat.sub_le (min a b.length) 0)<|Qa (Nat.min_le_right a b.length) f
  haveI ep:=jR (args:=[.G<|bM a b.length b,.A k,.G<|bM 0 a b]) (H:=H++[.A<|l.map bp,hV H.length (aQ<|bM 0 6 b) (aQ<|bM 6 12 b) k]) i ((aw (o:=dq<|.A k) (f:=λk=>some (bM a b.length b,k,bM 0 a b))<|bZ k).trans rfl) u x y;refine jn (xv (G:=[.A<|l.map bp,hV H.length (aQ<|bM 0 6 b) (aQ<|bM 6 12 b) k]) w (by refine af Qi ?_;exact aiN _ _ _ _ _)<|QY<|by refine af Qi ?_;exact Zs<|ZD 3) ?_;haveI z:(V.B H.length).K (ii H.length 2)=.B (H.length+2):=Qt V.B<|sm (i:=0);show _=bJ.ok ((V.B H.length).K<|ii H.length 2) (H++([.A<|l.map bp,hV H.length (aQ<|bM 0 6 b) (aQ<|bM 6 12 b) k]++(gH H.length k (bM a b.length b) (bM 0 a b) q).map (O.F<|ii H.length 2)));refine af (z ..)<|af (ads ..) ?_;haveI A:=rZ (k:=2) (N:=gH (H.length+2) k (bM a b.length b) (bM 0 a b) q) (by rw [Qi] at ep ⊢;exact ep) rfl rfl;apply aE (fd:=de) (vs:=[.G b]) rfl rfl;refine ah (cm (av (ae (aa rfl) aj) e)<|nz rfl rfl) ?_;refine aI<|av (ae (dX (aa rfl) (aa rfl) rfl<|jB (dW<|eJ n) rfl<|Qa f lb)<|ae (jT (aa rfl)<|fy (bn (k:=1))<|by kernel_rfl)<|ae (dX (aa rfl) rfl (aa rfl)<|jB rfl (dW<|eJ n)<|Qa f lb) aj) A
section
def aY(H:Hp)(v:V)(a:Str):Option V:=(xA v).bind λi=>H[i]?.bind λo=>(abH o).bind λp=>aB a p.2
def xF(H:Hp)(v:V)(k:Str):Option V:=(xA v).bind λi=>H[i]?.elim none λb=>oC none b (dict:=λl _=>some<|(aB k l).getD .C)
def lX(v:V):Option Str:=vC none v (str:=λx=>if PyData.strOk x then some x else none)
def lY(v:V):Option Int:=vC none v (int:=some)
theorem cH(h:lX v=some x):v=.D x/\PyData.strOk x=true:=by
 cases v with
 |D _=>exact adt h λq h=>by haveI h:=Qb h;subst h;exact⟨rfl,q⟩
 |_=>exact ar h
def abI(v:V):Option (List V):=vC none v (tup:=some)
theorem jC(h:abI v=some l):v=.F l:=by
 cases v with
 |F _=>haveI h:=Qb h;subst h;rfl
 |_=>exact ar h
def aas(l:List V):Option (V×V×V×V×V):=lC none (λa l=>(xz l).bind λq=>some (a,q)) l
theorem mI(h:aas l=some p):l=[p.1,p.2.1,p.2.2.1,p.2.2.2.1,p.2.2.2.2]:=by
 cases l with
 |nil=>exact ar h
 |cons a l=>exact bo h λq e h=>by haveI h:=Qb h;subst h;exact af (mE e) rfl
theorem jo(h:PyData.strOk k=true):lX (.D k)=some k:=Qh (t:=some k) (e:=none) h
theorem gS(h:lY v=some x):v=.A x:=by
 cases v with
 |A _=>haveI h:=Qb h;subst h;rfl
 |_=>exact ar h
section
variable {c:CF} {l:Lc} {H H1 G:Hp} {v u:V} {a k:Str} {e:X}
theorem jZ(h:aY H v a=some u):∃(i:Nat) (cn:Str) (fs:List (Str×V)),v=.B i/\H[i]?=some (.C cn fs)/\aB a fs=some u:=by
 revert h;refine dy λi b h=>?_;revert h;refine dy λo d h=>?_;revert h;exact dy λp f h=>vg i p.1 p.2 (mD b) (by(refine af d ?_;exact af (qL f) rfl)) h
theorem aat(h:aY H v a=some u):kh v a H=.ok u H:=by
 refine kf (jZ h) λi cn fs b d f=>?_;subst b;exact fy d f
theorem aW(h:aY H v a=some u):aY (H++G) v a=some u:=by
 refine kf (jZ h) λi cn fs d b f=>?_;subst d;show(H++G)[i]?.bind _=_;refine af (Qj (Qg.mp b).1) ?_;exact af b f
theorem bB(b:ak c e l H=.ok v H1)(d:aY H1 v a=some u):ak c (.L e a) l H=.ok u H1:=jT b<|aat d
theorem adv(h:xF H v k=some u):∃(i:Nat) (es:List (Str×V)) (ep:Option Nat),v=.B i/\H[i]?=some (.B es ep)/\u=(aB k es).getD .C:=by
 revert h;refine dy λi b h=>ahl h λo e h=>?_
 cases o with
 |B es ep=>haveI d:=Qb h;subst d;exact vg i es ep (mD b) e rfl
 |_=>exact ar h
theorem xG(b:ak c o l H=.ok v H)(d:ak c f l H=.ok (.D k) H)(g:xF H v k=some u):ak c (.R o "get" [f]) l H=.ok u H:=by
 refine kf (adv g) λi es ep h e j=>?_;subst h;subst j;refine nB b ?_ (ae d aj) ?_
 ·show(bX i H).Aa _=_;exact af (bO e)<|bT (p:=Str.ofString "get"=Str.ofString "get"∨Str.ofString "get"=Str.ofString "update")<|.inl rfl
 ·show(bX i H).Aa _=_;exact af (bO e)<|bT (p:=Str.ofString "get"=Str.ofString "get") rfl
theorem kD(h:PyData.strOk x=true):SeqAt.shaped (.str x)=true:=by simp [SeqAt.shaped,PyData.canLay0,PyData.depth,h]
theorem eq_str(b:PyData.strOk x=true)(d:PyData.strOk y=true)(h:(x ==y)=t):eO .Eq (.D x) (.D y) H=.ok (.E t) H:=by
 show zB (if(SeqAt.shaped (.str x)&&SeqAt.shaped (.str y))=true then some (x ==y) else none) H=_;rw [Qh<|by rw [kD b,kD d];rfl,h];rfl
theorem tS(b:PyData.strOk x=true)(d:PyData.strOk y=true)(h:(x ==y)=t):eO .NotEq (.D x) (.D y) H=.ok (.E<|!t) H:=by
 show zB (Option.map (!·)<|if(SeqAt.shaped (.str x)&&SeqAt.shaped (.str y))=true then some (x ==y) else none) H=_;exact af (Qh<|by rw [kD b,kD d];rfl)<|af h rfl
theorem so{xs:List Str}(h:(xs.any λj=>decide (j=x))=t):eO .In (.D x) (.F<|xs.map V.D) H=.ok (.E t) H:=by
 haveI q:∀xs:List Str,oy x (xs.map V.D)=some (xs.any λj=>decide (j=x)):=by
  intro xs
  induction xs with
  |nil=>rfl
  |cons j xs b=>show(oy x<|xs.map V.D).map _=_;exact af b rfl
 show zB (oy x<|xs.map V.D) H=_;exact af (q ..)<|af (h ..) rfl
theorem iZ{x y:Str}(h:x=y):(x ==y)=true:=beq_iff_eq.mpr h
theorem lx{x y:Str}(h:x≠y):(x ==y)=false:=Zy.mpr h
end
noncomputable def qh(kind:Nat):V:=.A<|if kind=2048 then 2 else if kind=34525 then 10 else if kind=2054 then 3 else 0
def kE(args:List V)(H:Hp):Option (bJ V):=(oW args).bind λv=>((aY H v "kind").bind dq).bind λk=>if k<65536 then some (.ok (qh k) H) else none
theorem aiO{c:CF}{k:Nat}(h:c 28=cU kE)(b:aY H v "kind"=some (.A k))(d:k<65536):c 28 [v] H=.ok (qh k) H:=
 eU h (by simp only [kE,oX,Zn,b,bZ,Qh d])
theorem aiP(c:CF):Ct c 28 kE:=by
 intro args H r _ _ h;revert h;refine dy λv n h=>bo h λk g m=>?_;clear h
 split at m
 case isFalse=>exact ar m
 injection m with z8;subst z8;refine bo g λkv g o=>?_;rw [bQ o] at g;refine af (gA n)<|.inl<|QR ?_;have b:ak c (.L (.A 0) "kind") (λj=>[v][j]?) H=.ok (.A k) H:=bB (aa rfl) g;apply aE (fd:=iD) (vs:=[v]) rfl rfl
 by_cases d:k=2048
 ·exact af (show qh k=.A 2 from Qt V.A<|Qh d)<|bb<|aK (am b rfl<|eq_t (n:=2048) d)<|aI rfl
 refine ah (aH<|am b rfl<|eq_f (n:=2048) d) ?_
 by_cases f:k=34525
 ·exact af (show qh k=.A 10 from Qt V.A<|(Qe d).trans<|Qh f)<|bb<|aK (am b rfl<|eq_t (n:=34525) f)<|aI rfl
 refine ah (aH<|am b rfl<|eq_f (n:=34525) f) ?_
 by_cases i:k=2054
 ·exact af (show qh k=.A 3 from Qt V.A<|(Qe d).trans<|(Qe f).trans<|Qh i)<|bb<|aK (am b rfl<|eq_t (n:=2054) i)<|aI rfl
 exact ah (aH<|am b rfl<|eq_f (n:=2054) i)<|af (show qh k=.A 0 from Qt V.A<|(Qe d).trans<|(Qe f).trans<|Qe i)<|aI rfl
def mv(H:Hp)(sc:V)(key:Str):Option V:=(aY H sc "packet").bind λf=>
 if key="l4proto" then((aY H f "l4").bind lY).bind λk=>some (if k<0 then .C else .A k)
 else if key="nfproto" then((aY H f "kind").bind dq).bind λk=>if k<65536 then some (qh k) else none
 else if key="length" then((aY H f "data").bind λd=>bS d H).bind λb=>if b.length<=1000 then some (.A b.length) else none
 else if key="protocol" then aY H f "kind"
 else(aY H f "meta").bind λm=>xF H m key
def pe(args:List V)(H:Hp):Option (bJ V):=(lp args).bind λp=>(lX p.2).bind λkey=>(mv H p.1 key).bind λv=>some<|.ok v H
theorem amf{c:CF}(h:c 34=cU pe)(b:PyData.strOk key=true)(d:mv H sc key=some v):c 34 [sc,.D key] H=.ok v H:=
 eU h (by simp only [pe,eV,Zn,jo b,d])
theorem amg{c:CF}(t:c 28=cU kE):Ct c 34 pe:=by
 intro args H r _ _ h;revert h;refine dy λF B h=>?_;obtain⟨sc,kv⟩:=F;revert h;refine dy λkey C h=>bo h λv D I=>?_;injection I with z10;subst z10;clear h;refine aP (cH C) λw i=>?_;subst w;refine af (eW B) ?_;clear B C;refine bo D λK E h=>?_;clear D;dsimp only at E h ⊢;refine .inl<|QR ?_;apply aE (fd:=gP) (vs:=[sc,.D key]) rfl rfl;refine ah (az<|bB (aa rfl) E) ?_
 by_cases o:key="l4proto"
 ·rw [Qh o] at h;refine bo h λk f g=>?_;clear h;haveI x:=Qb g;subst x;refine bo f λkv f g=>?_;rw [gS g] at f;refine bb<|aK (am (aa rfl) rfl<|eq_str i (by decide+kernel)<|iZ o)<|aI ?_
  by_cases n:k<0
  ·exact af (Qh n)<|cf (am (bB (aa rfl) f) rfl<|hZ<|dh n) rfl
  ·exact af (Qe n)<|ci (am (bB (aa rfl) f) rfl<|hZ<|cy n)<|bB (aa rfl) f
 rw [Qe o] at h;refine ah (aH<|am (aa rfl) rfl<|eq_str i (by decide+kernel)<|lx o) ?_
 by_cases p:key="nfproto"
 ·rw [Qh p] at h;refine bo h λk f g=>?_;clear h;revert g;refine ey λy g=>?_;haveI z:=Qb g;subst z;refine bo f λkv f g=>?_;rw [bQ g] at f;exact bb<|aK (am (aa rfl) rfl<|eq_str i (by decide+kernel)<|iZ p)<|aI<|av (ae (aa rfl) aj)<|aiO t f y
 rw [Qe p] at h;refine ah (aH<|am (aa rfl) rfl<|eq_str i (by decide+kernel)<|lx p) ?_
 by_cases j:key="length"
 ·rw [Qh j] at h;refine bo h λb f g=>?_;clear h;revert g;refine ey λJ g=>?_;haveI A:=Qb g;subst A;exact bo f λd f g=>bb<|aK (am (aa rfl) rfl<|so (xs:=["length","protocol"])<|by refine af j ?_;decide+kernel)<|aI<|cf (am (aa rfl) rfl<|eq_str i (by decide+kernel)<|iZ j)<|bh (ae (bB (aa rfl) f) aj)<|gh g<|Qa J lb
 rw [Qe j] at h
 by_cases s:key="protocol"
 ·rw [Qh s] at h;exact bb<|aK (am (aa rfl) rfl<|so (xs:=["length","protocol"])<|by refine af s ?_;decide+kernel)<|aI<|ci (am (aa rfl) rfl<|eq_str i (by decide+kernel)<|lx j)<|bB (aa rfl) h
 rw [Qe s] at h;refine bo h λm f g=>?_;clear h;refine ah (aH<|am (aa rfl) rfl<|so (xs:=["length","protocol"]) (t:=false) ?_)<|aI<|xG (bB (aa rfl) f) (aa rfl) g;show(decide (_=key)||(decide (_=key)||false))=false;exact af (cy<|λq=>j q.symm)<|af (cy<|λq=>s q.symm) rfl
end
section
section
variable {c:CF} {l:Lc} {H:Hp}
theorem nD(h:bK c es l (H++[.B []<|some 0])=.ok vs (H++[.B []<|some 0])):ak c (.Q (k::ks) es) l H=.ok (.B H.length) (H++[.B (aZ ((k::ks).zip vs) []) none]):=by
 show(bK c es l<|H++[.B []<|some 0]).Aa _=_;refine af h ?_;show(bX H.length<|H++[.B []<|some 0]).Aa _=_;refine af (bO<|bn (k:=0)) ?_;show(ml H.length _<|H++[.B []<|some 0]).Aa _=_;exact af (lu<|bn (k:=0))<|af (show List.set (H++[O.B []<|some 0]) H.length (.B (aZ ((k::ks).zip vs) []) none)=H++[.B (aZ ((k::ks).zip vs) []) none] from fO (k:=0)) rfl
theorem pR(a:l d=some (.B H.length))(b:decide (es.length<=1000)=true)(f:ak c i l (H++[.B es none])=.ok (.D w) (H++[.B es none]))(g:ak c e l (H++[.B es none])=.ok x (H++[.B es none])):
 aN c (.A (.B (.A d) i) e) l (H++[.B es none])=.ok (.Aa,l) (H++[.B (bz w x es) none]):=cm g (by
 show(ak c (.A d) l _).Aa _=_;refine af (aa a) ?_;show(ak c i l _).Aa _=_;refine af f ?_;show(fQ (.B H.length) (.D w) x _).Aa _=_;exact af (ly (es:=es) (ep:=none) (bn (k:=0))<|Qa (Ql b) lb)<|af (show List.set (H++[O.B es none]) H.length (lP w x es none)=H++[.B (bz w x es) none] from(fO (k:=0)).trans<|by show H++[O.B (bz w x es)<|if vi w es then none else none]=_;rw [ite_self]) rfl)
theorem adw:xF (H++[.B es ep]) (.B H.length) k=some ((aB k es).getD .C):=by
 show(Option.elim (H++[O.B es ep])[H.length]? none λa=>oC none a (dict:=λl _=>some<|(aB k l).getD .C))=_;exact af (show(H++[O.B es ep])[H.length]?=some (.B es ep) from bn (k:=0)) rfl
end
noncomputable abbrev sq:=Int×Int×Int×Int×Int×Int
noncomputable def cX(q:sq):V:=.F [.A q.1,.A q.2.1,.A q.2.2.1,.A q.2.2.2.1,.A q.2.2.2.2.1,.A q.2.2.2.2.2]
def tT(v:V):Option sq:=(abI v).bind λl=>lC none (λf l=>(aas l).bind λp=>(lY f).bind λf=>(lY p.1).bind λa=>(lY p.2.1).bind λb=>(lY p.2.2.1).bind λc=>(lY p.2.2.2.1).bind λd=>(lY p.2.2.2.2).bind λe=>some (f,a,b,c,d,e)) l
theorem tU:tT (cX q)=some q:=rfl
theorem qM(h:tT v=some q):v=cX q:=
 bo h λl g h=>by
  refine af (jC g) ?_
  cases l with
  |nil=>exact ar h
  |cons f l=>exact bo h λp i h=>bo h λs j h=>bo h λa k h=>bo h λb m h=>bo h λc n h=>bo h λd o h=>bo h λe r h=>by injection h with h;subst h;exact af (mI i)<|af (gS j)<|af (gS k)<|af (gS m)<|af (gS n)<|af (gS o)<|af (gS r) rfl
noncomputable def adx(q:sq):List (Str×V):=if q.1=2 then [("saddr4",.A q.2.2.1),("daddr4",.A q.2.2.2.2.1)] else if q.1=10 then [("saddr6",.A q.2.2.1),("daddr6",.A q.2.2.2.2.1)] else []
def uW(q:sq):List (Str×V):=("l3proto",.A q.1)::("protocol",.A q.2.1)::("proto-src",.A q.2.2.2.1)::("proto-dst",.A q.2.2.2.2.2)::adx q
noncomputable def aiQ(q:sq):List (Str×V):=(("l3proto":Str),V.A q.1)::(("protocol":Str),V.A q.2.1)::(("proto-src":Str),V.A q.2.2.2.1)::(("proto-dst":Str),V.A q.2.2.2.2.2)::[]
def iK(q:sq)(key:Str):V:=(aB key<|uW q).getD .C
theorem xH{es:List (Str×V)}:tM n es=true->((aB key es).getD .C).J n=true:=by
 induction es with
 |nil=>intro _;rfl
 |cons u r a=>
  intro h;haveI h:=Qs.mp h;show((if u.1=key then some u.2 else aB key r).getD .C).J n=true
  by_cases q:u.1=key
  ·exact af (Qh q) h.1
  ·exact af (Qe q)<|a h.2
theorem xI:(iK q key).J n=true:=by
 refine xH ?_;unfold uW adx
 split
 ·rfl
 split
 ·rfl
 ·rfl
def iL(args:List V)(H:Hp):Option (bJ V):=(lp args).bind λp=>(tT p.1).bind λq=>(lX p.2).bind λkey=>some<|.ok (iK q key) H
theorem agp{c:CF}(h:c 35=cU iL)(a:PyData.strOk key=true):c 35 [cX q,.D key] H=.ok (iK q key) H:=
 eU h (by simp only [iL,eV,Zn,jo a,tU])
theorem agq(c:CF):Ct c 35 iL:=by
 intro args H r w _ h;revert h;refine dy λD u h=>?_;obtain⟨x,y⟩:=D;revert h;refine dy λq v h=>bo h λkey z E=>?_;injection E with z3;subst z3;clear h;obtain rfl:=qM v;refine aP (cH z) λF K=>?_;subst F;refine af (eW u) ?_;clear u v z;obtain⟨n,a,s,b,t,d⟩:=q;refine jn (ij (G:=[.B (uW (n,a,s,b,t,d)) none]) w (Qd _) xI) ?_;have A:au c dp.Aa (λj=>[cX (n,a,s,b,t,d),.D key][j]?) H=au c (dp.Aa.drop 2) (Lc.Aa (Lc.Aa (Lc.Aa (Lc.Aa (Lc.Aa (Lc.Aa (Lc.Aa (λj=>[cX (n,a,s,b,t,d),.D key][j]?) 2<|.A n) 3<|.A a) 4<|.A s) 5<|.A b) 6<|.A t) 7<|.A d) 8<|.B H.length) (H++[.B (aiQ (n,a,s,b,t,d)) none]):=by
  refine ah (cm (aa rfl)<|nz rfl rfl)<|ah (az<|nD (vs:=[.A n,.A a,.A b,.A d])<|ae (aa rfl)<|ae (aa rfl)<|ae (aa rfl)<|ae (aa rfl) aj) ?_;exact af (show aZ ((Str.ofString "l3proto"::[Str.ofString "protocol",Str.ofString "proto-src",Str.ofString "proto-dst"]).zip [V.A n,.A a,.A b,.A d]) []=aiQ (n,a,s,b,t,d) from by kernel_rfl) rfl
 generalize i:(Lc.Aa (Lc.Aa (Lc.Aa (Lc.Aa (Lc.Aa (Lc.Aa (Lc.Aa (λj=>[cX (n,a,s,b,t,d),.D key][j]?) 2<|.A n) 3<|.A a) 4<|.A s) 5<|.A b) 6<|.A t) 7<|.A d) 8<|.B H.length)=e at A;haveI k:e 2=some (.A n):=i ▸rfl;haveI B:e 4=some (.A s):=i ▸rfl;haveI C:e 6=some (.A t):=i ▸rfl;haveI m:e 8=some (.B H.length):=i ▸rfl;haveI G:e 1=some (.D key):=i ▸rfl;clear i;have f:∀{t:Bool} {H':Hp},(([2,10]:List Int).any λj=>decide (j=n))=t->bj c (.I .In (.A 2)<|.D [.B 2,.B 10]) e H'=.ok t H':=λI=>am (aa k) rfl<|vT (c:=c) (l:=e) (e:=.B n) (xs:=[2,10]) rfl I;have g:∀{es:List (Str×V)},uW (n,a,s,b,t,d)=es->au c (dp.Aa.drop 3) e (H++[.B es none])=.ok (.Ab<|iK (n,a,s,b,t,d) key,e) (H++[.B (uW (n,a,s,b,t,d)) none]):=λJ=>by
  subst J;exact aI<|xG (aa m) (aa G) adw
 apply aE (fd:=dp) (vs:=[cX (n,a,s,b,t,d),.D key]) rfl rfl;refine af A ?_
 by_cases o:n=2
 ·subst o;refine ah (aK (f rfl)<|ah (pR m rfl (cf (am (aa k) rfl<|dC rfl) rfl)<|aa B)<|ah (pR m (by kernel_rfl) (cf (am (aa k) rfl<|dC rfl) rfl)<|aa C) aV)<|g (by kernel_rfl)
 by_cases p:n=10
 ·subst p;refine ah (aK (f rfl)<|ah (pR m rfl (ci (am (aa k) rfl<|dC rfl) rfl)<|aa B)<|ah (pR m (by kernel_rfl) (ci (am (aa k) rfl<|dC rfl) rfl)<|aa C) aV)<|g (by kernel_rfl)
 ·refine ah (aH<|f ?_)<|g ?_
  ·show(decide (_=n)||(decide (_=n)||false))=false;exact af (cy<|λq=>o q.symm)<|af (cy<|λq=>p q.symm) rfl
  ·show _::_::_::_::(if n=2 then _ else if n=10 then _ else [])=_;exact af (Qe o)<|af (Qe p) rfl
end
def oi(H:Hp)(v:V)(a:Str):Option Int:=(aY H v a).bind lY
def ady(H:Hp)(v:V)(a:Str):Option sq:=(aY H v a).bind tT
theorem ik(h:oi H v a=some x):aY H v a=some (.A x):=by
 refine bo h λu b c=>?_;clear h;exact af b<|af (gS c) rfl
theorem tV(h:ady H v a=some x):aY H v a=some (cX x):=by
 refine bo h λu b c=>?_;clear h;exact af b<|af (qM c) rfl
structure cv where
 st:Int
 ir:Int
 ma:Int
 zn:Int
 un:Int
 nw:Int
 og:sq
 rp:sq
def ank(H:Hp)(sc t:V):Option cv:=(oi H t "status").bind λst=>(oi H sc "is_reply").bind λa=>(oi H t "mark").bind λb=>(oi H t "zone").bind λc=>(oi H t "until").bind λun=>(oi H sc "now").bind λd=>(ady H t "original").bind λe=>(ady H t "reply").bind λf=>some ⟨st,a,b,c,un,d,e,f⟩
structure afb(H:Hp)(sc t:V)(d:cv):Prop where
 st:aY H t "status"=some (.A d.st)
 ir:aY H sc "is_reply"=some (.A d.ir)
 ma:aY H t "mark"=some (.A d.ma)
 zn:aY H t "zone"=some (.A d.zn)
 un:aY H t "until"=some (.A d.un)
 nw:aY H sc "now"=some (.A d.nw)
 og:aY H t "original"=some (cX d.og)
 rp:aY H t "reply"=some (cX d.rp)
theorem adz(h:ank H sc t=some d):afb H sc t d:=by
 revert h;refine dy λst a h=>?_;revert h;refine dy λl b h=>?_;revert h;refine dy λm c h=>?_;revert h;refine dy λn e h=>?_;revert h;refine dy λun f h=>?_;revert h;refine dy λo g h=>?_;revert h;refine dy λp i h=>?_;revert h;refine dy λq j h=>?_;haveI k:=Qb h;subst k;exact⟨ik a,ik b,ik c,ik e,ik f,ik g,tV i,tV j⟩
noncomputable def ct4(d:cv):List (Str×V):=(("status":Str),V.A d.st)::(("direction":Str),V.A d.ir)::(("mark":Str),V.A d.ma)::(("zone":Str),V.A d.zn)::[]
noncomputable def ct5(d:cv):List (Str×V):=(("status":Str),V.A d.st)::(("direction":Str),V.A d.ir)::(("mark":Str),V.A d.ma)::(("zone":Str),V.A d.zn)::(("expiration":Str),V.A<|if d.un - d.nw<0 then 0 else d.un - d.nw)::[]
def ctv(H:Hp)(sc:V)(key a:Str):Option V:=(aY H sc "talk").bind λt=>if key="state" then aY H sc "state" else if dH t then some .C else
 (ank H sc t).bind λd=>some<|(aB key<|ct5 d).getD<|iK (if a="reply" then d.rp else d.og) key
def kF(args:List V)(H:Hp):Option (bJ V):=(uU args).bind λp=>(lX p.2.1).bind λkey=>(lX p.2.2).bind λa=>(ctv H p.1 key a).bind λv=>some<|.ok v H
theorem aiR{c:CF}(h:c 36=cU kF)(b:PyData.strOk key=true)(d:PyData.strOk a=true)(e:ctv H sc key a=some v):c 36 [sc,.D key,.D a] H=.ok v H:=
 eU h (by simp only [kF,oY,Zn,jo b,jo d,e])
theorem kG(es:List (Str×V)):vi key es=(aB key es).isSome:=by
 induction es with
 |nil=>rfl
 |cons u r a=>
  show((u.1 ==key)||vi key r)=(if u.1=key then some u.2 else aB key r).isSome
  by_cases h:u.1=key
  ·exact af (Qh h)<|af (iZ h) rfl
  ·exact af (Qe h)<|af (lx h)<|af a rfl
theorem agr(h:H[i]?=some (.B es ep)):eO .In (.D k) (.B i) H=.ok (.E<|vi k es) H:=by
 show zB (Option.elim H[i]? none λa=>oC none a (dict:=λl _=>some<|vi k l)) H=_;exact af h rfl
theorem aiS(m:c 35=cU iL):Ct c 36 kF:=by
 intro args H r w hb h;revert h;refine dy λL A h=>?_;obtain⟨sc,kx,dx⟩:=L;revert h;refine dy λkey B h=>?_;revert h;refine dy λa C h=>bo h λv n M=>?_;injection M with z3;subst z3;clear h;refine aP (cH B) λN o=>?_;subst N;refine aP (cH C) λP E=>?_;subst P;refine af (jY A) ?_;clear A B C;dsimp only at n ⊢;refine bo n λt p h=>?_;clear n
 by_cases i:key="state"
 ·rw [Qh i] at h;refine .inl<|QR ?_;apply aE (fd:=dS) (vs:=[sc,.D key,.D a]) rfl rfl;exact ah (az<|bB (aa rfl) p)<|bb<|aK (am (aa rfl) rfl<|eq_str o (by decide+kernel)<|iZ i)<|aI<|bB (aa rfl) h
 rw [Qe i] at h;have F:∀{l:Lc} {H':Hp},l 1=some (.D key)->aN c (.C (.I .Eq (.A 1)<|.C "state") [.B<|.L (.A 0) "state"] []) l H'=.ok (.Aa,l) H':=λq=>aH<|am (aa q) rfl<|eq_str o (by decide+kernel)<|lx i
 cases k:dH t with
 |true=>
  rw [k,Qh rfl] at h;haveI Q:=Qb h;subst Q;refine .inl<|QR ?_;apply aE (fd:=dS) (vs:=[sc,.D key,.D a]) rfl rfl;refine ah (az<|bB (aa rfl) p)<|ah (F rfl)<|bb<|aK (am (aa rfl) rfl (k:=true) ?_)<|aI rfl;show bJ.ok (V.E<|dH t) H=_;exact af k rfl
 |false=>
  rw [k,Qe dd] at h;refine bo h λd G g=>?_;have D:=adz G;clear G h;have R:v.J H.length=true:=by
   injection g with z7;subst z7
   cases q:aB key (ct5 d) with
   |none=>exact xI
   |some u=>
    haveI:=xH (n:=H.length) (key:=key) (es:=ct5 d) rfl;rw [q] at this;exact this
  refine jn (ij (G:=[.B (ct5 d) none]) w (Qd _) R) ?_;haveI U:∀{l:Lc} {H':Hp},l 3=some t->aN c (.C (.I .Is (.A 3) .J) [.B .J] []) l H'=.ok (.Aa,l) H':=λ{l H'} q=>aH<|am (aa q) rfl (k:=false) (by show bJ.ok (V.E<|dH t) H'=_;exact af k rfl);haveI I:aN c (.A (.A 4)<|.Q ["status","direction","mark","zone"] [.L (.A 3) "status",.L (.A 0) "is_reply",.L (.A 3) "mark",.L (.A 3) "zone"]) (Lc.Aa (λj=>[sc,V.D key,.D a][j]?) 3 t) H=.ok (.Aa,Lc.Aa (Lc.Aa (λj=>[sc,V.D key,.D a][j]?) 3 t) 4<|.B H.length) (H++[.B (ct4 d) none]):=by
   refine az<|(nD (vs:=[.A d.st,.A d.ir,.A d.ma,.A d.zn])<|ae (bB (aa rfl)<|aW D.st)<|ae (bB (aa rfl)<|aW D.ir)<|ae (bB (aa rfl)<|aW D.ma)<|ae (bB (aa rfl)<|aW D.zn) aj).trans ?_;exact af (show aZ ((Str.ofString "status"::[Str.ofString "direction",Str.ofString "mark",Str.ofString "zone"]).zip [V.A d.st,.A d.ir,.A d.ma,.A d.zn]) []=ct4 d from by kernel_rfl) rfl
  generalize f:Lc.Aa (Lc.Aa (λj=>[sc,V.D key,.D a][j]?) 3 t) 4 (.B H.length)=e at I;haveI W:e 0=some sc:=f ▸rfl;have s:e 1=some (.D key):=f ▸rfl;haveI J:e 2=some (.D a):=f ▸rfl;haveI x:e 3=some t:=f ▸rfl;have y:e 4=some (.B H.length):=f ▸rfl;clear f;haveI Y:aN c (.A (.B (.A 4)<|.C "expiration")<|.K "max" [.E .Sub (.L (.A 3) "until")<|.L (.A 0) "now",.B 0]) e (H++[.B (ct4 d) none])=.ok (.Aa,e) (H++[.B (ct5 d) none]):=by
   haveI:=pR (c:=c) (H:=H) (d:=4) (es:=ct4 d) (i:=.C "expiration") (e:=.K "max" [.E .Sub (.L (.A 3) "until")<|.L (.A 0) "now",.B 0]) (w:="expiration") (x:=.A<|if d.un - d.nw<0 then 0 else d.un - d.nw) y rfl rfl<|bh (ae (aq (bB (aa x)<|aW D.un) (bB (aa W)<|aW D.nw) rfl)<|ae rfl aj) (by kernel_rfl);exact af this<|af (show bz (Str.ofString "expiration") (V.A<|if d.un - d.nw<0 then 0 else d.un - d.nw) (ct4 d)=ct5 d from by kernel_rfl) rfl
  haveI K:(H++[O.B (ct5 d) none])[H.length]?=some (.B (ct5 d) none):=bn (k:=0);have b:bj c (.I .In (.A 1)<|.A 4) e (H++[.B (ct5 d) none])=.ok (aB key<|ct5 d).isSome (H++[.B (ct5 d) none]):=am (aa s) (aa y) (by
   exact af (agr K ..)<|af (kG ..) rfl)
  apply aE (fd:=dS) (vs:=[sc,.D key,.D a]) rfl rfl;refine ah (az<|bB (aa rfl) p)<|ah (F rfl)<|ah (U rfl)<|ah I<|ah Y ?_
  cases q:aB key (ct5 d) with
  |some u=>
   rw [q] at g b;haveI Z:=Qb g;subst Z;refine bb<|aK b<|aI<|aJ (aa y) (aa s) ?_;show(bX H.length _).Aa _=_;refine af (bO K) ?_;show cs (aB key<|ct5 d) _ _=_;exact af q rfl
  |none=>
   rw [q] at g b;haveI z9:=Qb g;subst z9;refine ah (aH b)<|aI<|av (ae ?_<|ae (aa s) aj)<|agp m o
   by_cases z:a="reply"
   ·exact af (Qh z)<|cf (am (aa J) rfl<|eq_str E (by decide+kernel)<|iZ z)<|bB (aa x)<|aW D.rp
   ·exact af (Qe z)<|ci (am (aa J) rfl<|eq_str E (by decide+kernel)<|lx z)<|bB (aa x)<|aW D.og
def pf(v:V):Option V:=(abI v).bind λl=>(aas l).bind λq=>some q.2.2.2.2
theorem qN(h:pf v=some k):∃a b c d,v=.F [a,b,c,d,k]:=
 bo h λl e h=>bo h λq f h=>by haveI h:=Qb h;subst h;exact af (jC e)<|af (mI f)<|ahV _ _ _ _ rfl
def xJ(v:V):Option (V×V):=(abI v).bind lp
theorem xK(h:xJ v=some p):v=.F [p.1,p.2]:=
 bo h λl a h=>by(exact af (jC a)<|af (eW h) rfl)
theorem bu(h:cs (idx (i:Int) xs.length) (λj=>cs xs[j]? AM.Ab) H=.ok v H):nZ (.F xs) (.A i) H=.ok v H:=h
def rmv(H:Hp)(sc f:V):Option V:=(pf f).bind λk=>(lX k).bind λkey=>mv H sc key
def rcv(H:Hp)(sc f:V):Option V:=(pf f).bind λk=>(xJ k).bind λp=>(lX p.1).bind λkey=>(lX p.2).bind λa=>ctv H sc key a
def iM(P:Hp->V->V->Option V)(args:List V)(H:Hp):Option (bJ V):=(lp args).bind λp=>(P H p.1 p.2).bind λv=>some<|.ok v H
theorem xL{c:CF}(h:c i=cU (iM P))(a:P H x y=some v):c i [x,y] H=.ok v H:=
 eU h (by simp only [iM,eV,Zn,a])
theorem vU(h:iM P args H=some r):∃x y v,args=[x,y]/\P H x y=some v/\r=.ok v H:=by
 revert h;refine dy λp a h=>bo h λv b c=>?_;clear h;haveI d:=Qb c;subst d;exact vg p.1 p.2 v (eW a) b rfl
theorem amj(g:c 34=cU pe):Ct c 38 (iM rmv):=by
 intro args H r _ _ h;refine kf (vU h) λsc f v j i l=>?_;subst j;subst l;clear h;refine bo i λk m h=>?_;clear i;refine bo h λkey n o=>?_;clear h;refine aP (cH n) λp q=>?_;subst p;refine kg (qN m) λa b d e s=>?_;subst s;refine .inl<|QR ?_;apply aE (fd:=iE) (vs:=[sc,.F [a,b,d,e,.D key]]) rfl rfl;exact aI<|av (ae (aa rfl)<|ae (aJ (aa rfl) rfl<|bu (i:=4) rfl) aj)<|amf g q o
theorem amk(g:c 36=cU kF):Ct c 39 (iM rcv):=by
 intro args H r _ _ h;refine kf (vU h) λsc f v p o q=>?_;subst p;subst q;clear h;refine bo o λk s h=>?_;clear o;revert h;refine dy λi t h=>?_;obtain⟨x,y⟩:=i;revert h;refine dy λkey u h=>bo h λj w z=>?_;clear h;refine aP (cH u) λl A=>?_;subst l;refine aP (cH w) λm B=>?_;subst m;obtain rfl:=xK t;refine kg (qN s) λa b d e n=>?_;subst n;refine .inl<|QR ?_;apply aE (fd:=ku) (vs:=[sc,.F [a,b,d,e,.F [.D key,.D j]]]) rfl rfl;exact aI<|av (ae (aa rfl)<|ae (aJ (aJ (aa rfl) rfl<|bu (i:=4) rfl) rfl<|bu (i:=0) rfl)<|ae (aJ (aJ (aa rfl) rfl<|bu (i:=4) rfl) rfl<|bu (i:=1) rfl) aj)<|aiR g A B z
noncomputable def bI:List (Str×V):=(("payload":Str),V.H 37)::(("meta":Str),V.H 38)::(("ct":Str),V.H 39)::[]
def eB(args:List V)(H:Hp):Option (bJ V):=if args.isEmpty then some (.ok (.B H.length)<|H++[.B bI none]) else none
theorem xM{c:CF}(h:c 40=cU eB):c 40 [] H=.ok (.B H.length) (H++[.B bI none]):=eU h rfl
theorem xN(c:CF):Ct c 40 eB:=by
 intro args H r _ _ h;unfold eB at h;revert h;refine ey λb h=>?_;haveI a:=Qb h;subst a;refine af (List.isEmpty_iff.mp b)<|.inl<|QR ?_;apply aE (fd:=fD) (vs:=[]) rfl rfl;haveI e:=aI (c:=c) (ss:=[])<|nD (c:=c) (l:=λj=>([]:List V)[j]?) (H:=H) (k:="payload") (ks:=["meta","ct"]) (es:=[.F 37,.F 38,.F 39]) (vs:=[.H 37,.H 38,.H 39])<|ae rfl<|ae rfl<|ae rfl aj;rw [show aZ ((Str.ofString "payload"::[Str.ofString "meta",Str.ofString "ct"]).zip [V.H 37,.H 38,.H 39]) []=bI from by kernel_rfl] at e;exact e
noncomputable abbrev kH:=Str×Nat
noncomputable def cQ(n:kH):V:=.F [.D n.1,.A n.2]
noncomputable def gI:List (Str×List kH):=[("ether",[]),("th",[]),("vlan",[("ether type",33024)]),("arp",[("meta protocol",2054)]),("ip",[("meta nfproto",2)]),("ip6",[("meta nfproto",10)]),("tcp",[("meta l4proto",6)]),("udp",[("meta l4proto",17)]),("icmp",[("meta nfproto",2),("meta l4proto",1)]),("icmpv6",[("meta nfproto",10),("meta l4proto",58)])]
def dD:List (Str×V):=gI.map λp=>(p.1,.F<|p.2.map cQ)
noncomputable def lZ(x:Str):List (Str×List kH)->Option (List kH)
 |[]=>none
 |(y,l)::r=>if y=x then some l else lZ x r
theorem uX(l:List (Str×List kH)):aB x (l.map λp=>(p.1,V.F<|p.2.map cQ))=(lZ x l).map λn=>V.F (n.map cQ):=by
 induction l with
 |nil=>rfl
 |cons u r a=>
  show(if u.1=x then some (V.F<|u.2.map cQ) else aB x (r.map _))=(if u.1=x then some u.2 else lZ x r).map _
  by_cases h:u.1=x
  ·exact af (Qh h)<|af (Qh h) rfl
  ·exact af (Qe h)<|af (Qe h) a
def gj(args:List V)(H:Hp):Option (bJ V):=(oW args).bind λv=>(lX v).bind λx=>(lZ x gI).bind λl=>some<|.ok (.F<|l.map cQ) H
theorem xO{c:CF}(h:c 11=cU gj)(a:PyData.strOk x=true)(b:lZ x gI=some l):c 11 [.D x] H=.ok (.F<|l.map cQ) H:=
 eU h (by simp only [gj,oX,Zn,jo a,b])
theorem tW:∀l:List kH,rX n (l.map cQ)=true
 |[]=>rfl
 |x::l=>by show(true&&rX n (l.map cQ))=true;exact af (tW l) rfl
theorem adA(c:CF):Ct c 11 gj:=by
 intro args H r w _ h;revert h;refine dy λv g h=>?_;revert h;refine dy λx i h=>bo h λl k m=>?_;haveI a:=Qb m;subst a;clear h;refine aP (cH i) λb s=>?_;subst b;refine af (gA g)<|jn (ij (G:=[.B dD none]) w (Qd _)<|tW l) ?_;have d:aB x dD=some (.F<|l.map cQ):=(uX gI).trans (by refine af k ?_;rfl);haveI f:(H++[O.B dD none])[H.length]?=some (.B dD none):=bn (k:=0);haveI n:aN c (.A (.A 1)<|.Q ["ether","th","vlan","arp","ip","ip6","tcp","udp","icmp","icmpv6"] [.D [],.D [],.D [.D [.C "ether type",.B 33024]],.D [.D [.C "meta protocol",.B 2054]],.D [.D [.C "meta nfproto",.B 2]],.D [.D [.C "meta nfproto",.B 10]],.D [.D [.C "meta l4proto",.B 6]],.D [.D [.C "meta l4proto",.B 17]],.D [.D [.C "meta nfproto",.B 2],.D [.C "meta l4proto",.B 1]],.D [.D [.C "meta nfproto",.B 10],.D [.C "meta l4proto",.B 58]]]) (λj=>[V.D x][j]?) H=.ok (.Aa,Lc.Aa (λj=>[V.D x][j]?) 1<|.B H.length) (H++[.B dD none]):=by
  haveI e:=nD (c:=c) (l:=λj=>[V.D x][j]?) (H:=H) (k:="ether") (ks:=["th","vlan","arp","ip","ip6","tcp","udp","icmp","icmpv6"]) (es:=[.D [],.D [],.D [.D [.C "ether type",.B 33024]],.D [.D [.C "meta protocol",.B 2054]],.D [.D [.C "meta nfproto",.B 2]],.D [.D [.C "meta nfproto",.B 10]],.D [.D [.C "meta l4proto",.B 6]],.D [.D [.C "meta l4proto",.B 17]],.D [.D [.C "meta nfproto",.B 2],.D [.C "meta l4proto",.B 1]],.D [.D [.C "meta nfproto",.B 10],.D [.C "meta l4proto",.B 58]]]) (vs:=gI.map λp=>.F<|p.2.map cQ) (by kernel_rfl);rw [show aZ ((Str.ofString "ether"::[Str.ofString "th",Str.ofString "vlan",Str.ofString "arp",Str.ofString "ip",Str.ofString "ip6",Str.ofString "tcp",Str.ofString "udp",Str.ofString "icmp",Str.ofString "icmpv6"]).zip<|gI.map λp=>V.F<|p.2.map cQ) []=dD from by kernel_rfl] at e;exact az e
 apply aE (fd:=ju) (vs:=[.D x]) rfl rfl;haveI o:bj c (.I .NotIn (.A 0)<|.A 1) (Lc.Aa (λj=>[V.D x][j]?) 1<|.B H.length) (H++[.B dD none])=.ok false (H++[.B dD none]):=by
  refine am (aa rfl) (aa rfl) ?_;show zB ((Option.elim (H++[O.B dD none])[H.length]? none λq=>oC none q (dict:=λl _=>some<|vi x l)).map (!·)) _=_;refine af f ?_;show zB (some<|!(vi x dD)) _=_;exact af (kG ..)<|af (d ..) rfl
 refine ah n<|ah (aH o)<|aI<|aJ (aa rfl) (aa rfl) ?_;show(bX H.length _).Aa _=_;refine af (bO f) ?_;show cs (aB x dD) _ _=_;exact af d rfl
def bov(H:Hp)(a:V)(base:Str):Option (Option<|V×Nat):=
 if base="network" then(aY H a "data").bind λd=>some (some (d,0))
 else if base="transport" then(oi H a "off").bind λo=>if o<0 then some none else(aY H a "data").bind λd=>some (some (d,o.toNat))
 else if base="link" then(aY H a "link").bind λd=>(bS d H).bind λb=>if b.length<=200 then(if b.length=0 then some none else some (some (d,0))) else none
 else none
noncomputable def boV:Option (V×Nat)->V
 |none=>.C
 |some (d,o)=>.F [d,.A o]
def pg(args:List V)(H:Hp):Option (bJ V):=(lp args).bind λp=>(lX p.2).bind λbase=>(bov H p.1 base).bind λq=>some<|.ok (boV q) H
theorem amm{c:CF}(h:c 29=cU pg)(a:PyData.strOk base=true)(b:bov H d base=some q):c 29 [d,.D base] H=.ok (boV q) H:=
 eU h (by simp only [pg,eV,Zn,jo a,b])
theorem amn(c:CF):Ct c 29 pg:=by
 intro args H r _ _ h;revert h;refine dy λy v h=>?_;obtain⟨p,F⟩:=y;revert h;refine dy λbase w h=>bo h λq a A=>?_;injection A with z2;subst z2;clear h;refine aP (cH w) λB k=>?_;subst B;refine af (eW v) ?_;clear v w;dsimp only at a ⊢;refine .inl<|QR ?_;apply aE (fd:=kt) (vs:=[p,.D base]) rfl rfl;unfold bov at a
 by_cases l:base="network"
 ·rw [Qh l] at a;refine bo a λd f g=>?_;clear a;haveI C:=Qb g;subst C;exact bb<|aK (am (aa rfl) rfl<|eq_str k (by decide+kernel)<|iZ l)<|aI<|bf<|ae (bB (aa rfl) f)<|ae rfl aj
 rw [Qe l] at a;refine ah (aH<|am (aa rfl) rfl<|eq_str k (by decide+kernel)<|lx l) ?_
 by_cases m:base="transport"
 ·rw [Qh m] at a;refine bo a λo f g=>?_;clear a;have f:=ik f;have t:bj c (.I .Eq (.A 1)<|.C "transport") (λj=>[p,V.D base][j]?) H=.ok true H:=am (aa rfl) rfl<|eq_str k (by decide+kernel)<|iZ m
  by_cases n:o<0
  ·rw [Qh n] at g;injection g with z5;subst z5;exact bb<|aK t<|bb<|aK (am (bB (aa rfl) f) rfl<|hZ<|dh n)<|aI rfl
  ·rw [Qe n] at g;refine bo g λd s i=>?_;clear g;haveI D:=Qb i;subst D;haveI e:(o.toNat:Int)=o:=Int.toNat_of_nonneg<|Int.not_lt.mp n;show au c _ _ H=.ok (.Ab<|.F [d,.A o.toNat],_) H;exact af e<|bb<|aK t<|ah (aH<|am (bB (aa rfl) f) rfl<|hZ<|cy n)<|aI<|bf<|ae (bB (aa rfl) s)<|ae (bB (aa rfl) f) aj
 rw [Qe m] at a;refine ah (aH<|am (aa rfl) rfl<|eq_str k (by decide+kernel)<|lx m) ?_
 by_cases u:base="link"
 case neg=>rw [Qe u] at a;exact ar a
 rw [Qh u] at a;refine bo a λd f g=>?_;clear a;refine bo g λb s i=>?_;clear g;revert i;refine ey λE i=>ah (aH<|am (k:=false) (aa rfl) rfl<|tS (t:=true) k (by decide+kernel)<|iZ u) ?_;haveI x:ak c (.K "len" [.L (.A 0) "link"]) (λj=>[p,V.D base][j]?) H=.ok (.A b.length) H:=bh (ae (bB (aa rfl) f) aj)<|gh s<|Qa E lb
 by_cases z:b.length=0
 ·rw [Qh z] at i;injection i with z7;subst z7;exact bb<|aK (am x rfl<|eq_t (n:=0) z)<|aI rfl
 ·rw [Qe z] at i;injection i with z8;subst z8;exact ah (aH<|am x rfl<|eq_f (n:=0) z)<|aI<|bf<|ae (bB (aa rfl) f)<|ae rfl aj
def fbv(H:Hp)(c:V)(base:Str)(a m:Nat):Option V:=(bov H c base).bind λq=>match q with
 |none=>some .C
 |some (d,o)=>(bS d H).bind λb=>if b.length<=200/\m<=1000/\o<=1000/\a<=1000 then some (uY b (o*8+a) m) else none
def pi(args:List V)(H:Hp):Option (bJ V):=(xz args).bind λp=>(lX p.2.1).bind λbase=>(dq p.2.2.1).bind λa=>(dq p.2.2.2).bind λm=>(fbv H p.1 base a m).bind λv=>some<|.ok v H
theorem amo{c:CF}(h:c 30=cU pi)(b:PyData.strOk base=true)(d:fbv H e base a m=some v):c 30 [e,.D base,.A a,.A m] H=.ok v H:=
 eU h (by simp only [pi,oZ,Zn,jo b,bZ,d])
theorem amp{c:CF}(g:c 29=cU pg)(i:c 17=cU jU):Ct c 30 pi:=by
 intro args H r _ _ h;revert h;refine dy λA w h=>?_;obtain⟨e,D,E,F⟩:=A;revert h;refine dy λbase x h=>?_;revert h;refine dy λa y h=>?_;revert h;refine dy λm z h=>bo h λv k l=>?_;injection l with z10;subst z10;clear h;refine aP (cH x) λn B=>?_;subst n;obtain rfl:=bQ y;obtain rfl:=bQ z;refine af (mE w) ?_;clear w x y z;dsimp only at k ⊢;refine .inl<|QR ?_;refine bo k λq l s=>?_;clear k;have s1:aN c (.A (.A 4)<|.G (.F 29) [.A 0,.A 1]) (λj=>[e,V.D base,.A a,.A m][j]?) H=.ok (.Aa,Lc.Aa (λj=>[e,V.D base,.A a,.A m][j]?) 4<|boV q) H:=az<|av (ae (aa rfl)<|ae (aa rfl) aj)<|amm g B l
 cases q with
 |none=>
  injection s with z12;subst z12;apply aE (fd:=ez) (vs:=[e,.D base,.A a,.A m]) rfl rfl;exact ah s1<|bb<|aK (cu (d:=false)<|am (aa rfl) rfl rfl)<|aI rfl
 |some p=>
  obtain⟨d,o⟩:=p;refine bo s λb C t=>?_;clear s;revert t;refine ey λf t=>?_;haveI u:=Qb t;subst u;apply aE (fd:=ez) (vs:=[e,.D base,.A a,.A m]) rfl rfl;refine ah s1<|ah (aH<|bD (am (aa rfl) rfl rfl)<|bD (am (aa rfl) rfl<|vk (n:=0)<|QO _) fL) ?_;exact aI<|av (ae (aJ (aa rfl) rfl<|bu (i:=0) rfl)<|ae (aq (aq (aJ (aa rfl) rfl<|bu (i:=1) rfl) rfl<|eX (q:=8)<|.of_right lb) (aa rfl) rfl)<|ae (aa rfl) aj)<|ags (a:=o*8+a) i C f.1 f.2.1<|aU<|Qf (QJ f.right.right.left<|Qd 8) f.right.right.right
section
section
variable {c:CF} {l:Lc} {H H0 H1:Hp} {f e:X} {es:List X} {vs:List V} {g:Nat} {rr:bJ V} {ss:List S} {k x:Str}
theorem adB(a:ak c f l H=.ok (.H g) H0)(b:bK c es l H0=.ok vs H1)(d:c g vs H1=rr):ak c (.G f es) l H=rr:=by
 show(ak c f l H).Aa _=_;refine af a ?_;show(bK c es l H0).Aa _=_;exact af b d
theorem xP(h:ak c e l H=.Ac k x H1):au c (.B e::ss) l H=.Ac k x H1:=by
 show((ak c e l H).Aa _).Aa _=_;exact af h rfl
theorem gB(h:a.length+b.length<=16777216):mq .Add (.D a) (.D b) H=.ok (.D<|a++b) H:=congrFun (Qh (c:=cx<|a.length+b.length) h) H
theorem fP{k:Bool}(h:ak c a l H=.ok v H1)(b:dH v=k):bj c (.I .Is a .J) l H=.ok k H1:=am h rfl (by subst b;rfl)
end
def afc(v:V):Option Nat:=vC none v (glob:=some)
theorem xQ(h:afc v=some j):v=.H j:=by
 cases v with
 |H _=>haveI h:=Qb h;subst h;rfl
 |_=>exact ar h
def rdv(pl:Hp->V->V->Option V)(H:Hp)(sc f:V)(j:Nat):Option V:=if j=38 then rmv H sc f else if j=39 then rcv H sc f else if j=37 then pl H sc f else none
def rbR(pl:Hp->V->V->Option V)(H:Hp)(sc:V)(a:Str)(f:V):Option (bJ V):=(aY H sc "readers").bind λb=>(xF H b a).bind λg=>
 if dH g then(if a.length<=1000 then some (.Ac "Misused" (Str.ofString "no reader for "++a) H) else none) else(afc g).bind λj=>(rdv pl H sc f j).bind λv=>some<|.ok v H
def su(pl:Hp->V->V->Option V)(args:List V)(H:Hp):Option (bJ V):=(uU args).bind λp=>(lX p.2.1).bind λa=>rbR pl H p.1 a p.2.2
theorem amq{c:CF}(h:c 32=cU (su pl))(b:PyData.strOk a=true)(d:rbR pl H sc a f=some r):c 32 [sc,.D a,f] H=r:=
 eU h (by simp only [su,oY,Zn,jo b,d])
theorem agt(m:c 38=cU (iM rmv))(n:c 39=cU (iM rcv))(o:∀H sc f v,pl H sc f=some v->c 37 [sc,f] H=.ok v H):Ct c 32 (su pl):=by
 intro args H r _ _ h;revert h;refine dy λB w h=>?_;obtain⟨sc,K,f⟩:=B;refine bo h λb y p=>?_;clear h;refine aP (cH y) λC L=>?_;subst C;refine af (jY w) ?_;clear w y;dsimp only at p ⊢;refine bo p λM D z=>?_;clear p;refine bo z λg E d=>?_;clear z;refine .inl<|QR ?_;have s1:aN c (.A (.A 3)<|.R (.L (.A 0) "readers") "get" [.A 1]) (λj=>[sc,V.D b,f][j]?) H=.ok (.Aa,Lc.Aa (λj=>[sc,V.D b,f][j]?) 3 g) H:=az<|xG (bB (aa rfl) D) (aa rfl) E
 cases i:dH g with
 |true=>
  rw [i,Qh rfl] at d;revert d;refine ey λF d=>?_;injection d with z4;subst z4;refine nC (fd:=hJ) (vs:=[sc,.D b,f]) rfl rfl<|ah s1<|hW<|aK (fP (aa rfl) i)<|hW<|pb<|aq rfl (aa rfl)<|gB ?_;haveI:(Str.ofString "no reader for ").length<=1000:=by decide+kernel
  exact aU<|Qf this F
 |false=>
  rw [i,Qe dd] at d;refine bo d λj G A=>?_;clear d;refine bo A λv a q=>?_;clear A;haveI I:=Qb q;subst I;obtain rfl:=xQ G;haveI J:c j [sc,f] H=.ok v H:=by
   unfold rdv at a
   by_cases s:j=38
   ·rw [Qh s] at a;subst s;exact xL m a
   rw [Qe s] at a
   by_cases t:j=39
   ·rw [Qh t] at a;subst t;exact xL n a
   rw [Qe t] at a
   by_cases u:j=37
   ·rw [Qh u] at a;subst u;exact o _ _ _ _ a
   ·rw [Qe u] at a;exact ar a
  apply aE (fd:=hJ) (vs:=[sc,.D b,f]) rfl rfl;exact ah s1<|ah (aH<|fP (aa rfl) i)<|aI<|adB (aa rfl) (ae (aa rfl)<|ae (aa rfl) aj) J
def ja(v:V):Option Str:=(abI v).bind λl=>(aas l).bind λq=>lX q.1
theorem mJ(h:ja v=some t):PyData.strOk t=true/\∃a b d e,v=.F [.D t,a,b,d,e]:=
 bo h λl i h=>bo h λq j h=>by(refine af (jC i)<|af (mI j)<|af ((cH h).1) ?_);exact⟨(cH h).2,_,_,_,_,rfl⟩
def voR(pl:Hp->V->V->Option V)(H:Hp)(sc:V)(name:Str):Option (bJ V):=(aY H sc "fields").bind λfd=>(xF H fd name).bind λf=>
 if dH f then(if name.length<=1000 then some (.Ac "Misused" (Str.ofString "unknown field "++name) H) else none) else(ja f).bind λt=>rbR pl H sc t f
noncomputable def io(name:Str):V:=.F [.D "field",.D name]
def alz(v:V):Option Str:=vC none v (str:=some)
theorem xR(h:alz v=some x):v=.D x:=by
 cases v with
 |D _=>haveI h:=Qb h;subst h;rfl
 |_=>exact ar h
def abJ(v:V):Option Str:=(abI v).bind λl=>(lp l).bind λq=>(alz q.1).bind λx=>(alz q.2).bind λn=>if x="field" then some n else none
theorem xS(h:abJ v=some n):v=io n:=
 bo h λl a h=>bo h λq b h=>bo h λx d h=>bo h λn i h=>adt h λe h=>by
  injection h with h;subst h;exact af (jC a)<|af (eW b)<|af (xR d)<|af (xR i)<|af e rfl
theorem tX:abJ (io n)=some n:=Qh (c:=(Str.ofString "field":Str)="field") (t:=some n) (e:=none) rfl
def ol(pl:Hp->V->V->Option V)(args:List V)(H:Hp):Option (bJ V):=(lp args).bind λp=>(abJ p.2).bind λn=>voR pl H p.1 n
theorem agu{c:CF}(h:c 33=cU (ol pl))(a:voR pl H sc n=some r):c 33 [sc,io n] H=r:=
 eU h (by simp only [ol,eV,Zn,tX,a])
theorem agv(q:c 32=cU (su pl)):Ct c 33 (ol pl):=by
 intro args H r _ _ h;revert h;refine dy λF B h=>?_;obtain⟨sc,e⟩:=F;refine bo h λn C s=>?_;clear h;obtain rfl:=xS C;refine af (eW B) ?_;clear B C;dsimp only at s ⊢;refine bo s λfd G D=>?_;clear s;refine bo D λf I m=>?_;clear D;refine .inl<|QR ?_;have s1:aN c (.A (.A 2)<|.H (.A 1)<|.B 0) (λj=>[sc,io n][j]?) H=.ok (.Aa,Lc.Aa (λj=>[sc,io n][j]?) 2<|.D "field") H:=az<|aJ (aa rfl) rfl<|bu (i:=0) rfl;have u:bj c (.I .Eq (.A 2)<|.C "field") (Lc.Aa (λj=>[sc,io n][j]?) 2<|.D "field") H=.ok true H:=am (aa rfl) rfl<|eq_str (by decide+kernel) (by decide+kernel)<|iZ rfl;have w:aN c (.A (.A 3)<|.R (.L (.A 0) "fields") "get" [.H (.A 1)<|.B 1]) (Lc.Aa (λj=>[sc,io n][j]?) 2<|.D "field") H=.ok (.Aa,Lc.Aa (Lc.Aa (λj=>[sc,io n][j]?) 2<|.D "field") 3 f) H:=az<|xG (bB (aa rfl) G) (aJ (aa rfl) rfl<|bu (i:=1) rfl) I
 cases o:dH f with
 |true=>
  rw [o,Qh rfl] at m;revert m;refine ey λy m=>?_;haveI J:=Qb m;subst J;refine nC (fd:=dR) (vs:=[sc,io n]) rfl rfl<|ah s1<|hW<|aK u<|ah w<|hW<|aK (fP (aa rfl) o)<|hW<|pb<|aq rfl (aJ (aa rfl) rfl<|bu (i:=1) rfl)<|gB ?_;haveI:(Str.ofString "unknown field ").length<=1000:=by decide+kernel
  exact aU<|Qf this y
 |false=>
  rw [o,Qe dd] at m;refine bo m λt K i=>?_;clear m;refine aP (mJ K) λy p=>kg p λa b d e z=>?_;clear p;subst z;have E:ak c (.G (.F 32) [.A 0,.H (.A 3)<|.B 0,.A 3]) (Lc.Aa (Lc.Aa (λj=>[sc,io n][j]?) 2<|.D "field") 3<|.F [.D t,a,b,d,e]) H=r:=av (ae (aa rfl)<|ae (aJ (aa rfl) rfl<|bu (i:=0) rfl)<|ae (aa rfl) aj)<|amq q y i;haveI L:(∃v,r=.ok v H)∨∃k x,r=.Ac k x H:=by
   revert i;refine dy λM _ i=>?_;revert i;refine dy λg _ i=>?_
   split at i
   ·split at i
    ·injection i with z12;subst z12;exact .inr<|fK _ _ rfl
    ·exact ar i
   ·revert i;refine dy λj _ i=>?_;revert i;refine dy λv _ i=>?_;haveI A:=Qb i;subst A;exact .inl ⟨v,rfl⟩
  rcases L with ⟨v,rfl⟩|⟨k,x,rfl⟩
  ·apply aE (fd:=dR) (vs:=[sc,io n]) rfl rfl;exact ah s1<|bb<|aK u<|ah w<|ah (aH<|fP (aa rfl) o)<|aI E
  ·exact nC (fd:=dR) (vs:=[sc,io n]) rfl rfl<|ah s1<|hW<|aK u<|ah w<|ah (aH<|fP (aa rfl) o)<|xP E
def vv(pl:Hp->V->V->Option V)(H:Hp)(sc:V)(n:Str):Option V:=match voR pl H sc n with|some (.ok v _)=>some v|_=>none
set_option tactic.hygienic true in
theorem agw{c:CF}(h:c 33=cU (ol pl))(b:vv pl H sc n=some v):c 33 [sc,io n] H=.ok v H:=by
 unfold vv at b
 split at b
 ·rename_i u H' e
  injection b with z14;subst z14;haveI:H'=H:=by
   refine bo e λfd _ a=>?_;clear e;revert a;refine dy λf _ a=>?_
   split at a
   ·split at a<;>cases a
   revert a;refine dy λt _ a=>?_;revert a;refine dy λd _ a=>?_;revert a;refine dy λg _ a=>?_
   split at a
   ·split at a<;>cases a
   revert a;refine dy λj _ a=>?_;revert a;refine dy λv _ a=>?_;injection a with z15;injection z15 with z16 z17;subst z16;subst z17;rfl
  subst this;exact agu h e
 ·exact ar b
end
def qt(v:V)(w:Nat):Option Bool:=vC none v (none:=some false) (int:=λk=>some (decide (k=w)))
noncomputable def nmL(vf:Hp->V->Str->Option V)(H:Hp)(sc:V):List kH->Option Bool
 |[]=>some true
 |x::r=>(vf H sc x.1).bind λv=>(qt v x.2).bind λb=>if b then nmL vf H sc r else some false
def nmv(vf:Hp->V->Str->Option V)(H:Hp)(sc:V)(a:Str):Option Bool:=(lZ a gI).bind<|nmL vf H sc
def uZ(vf:Hp->V->Str->Option V)(args:List V)(H:Hp):Option (bJ V):=(lp args).bind λp=>(lX p.2).bind λa=>(nmv vf H p.1 a).bind λb=>some<|.ok (.E b) H
theorem amr{c:CF}(h:c 31=cU (uZ vf))(d:PyData.strOk a=true)(e:nmv vf H sc a=some b):c 31 [sc,.D a] H=.ok (.E b) H:=
 eU h (by simp only [uZ,eV,Zn,jo d,e])
theorem aau{step:Lc->AM (Fl×Lc)}(b:src k H=.ok (some v) H)(d:jc c t v l H=.ok a H1)(e:step a H1=.ok (.Ab u,f) g):jK c t src step (n+1) k l H=.ok (.Ab u,f) g:=by
 show(src k H).Aa _=_;refine af b ?_;show(jc c t v l H).Aa _=_;refine af d ?_;show(step a H1).Aa _=_;exact af e rfl
theorem fH{step:Lc->AM (Fl×Lc)}(b:src k H=.ok (some v) H)(d:jc c t v l H=.ok a H1)(e:step a H1=.ok (.Aa,f) g)(h:jK c t src step n (k+1) f g=r):jK c t src step (n+1) k l H=r:=by
 show(src k H).Aa _=_;refine af b ?_;show(jc c t v l H).Aa _=_;refine af d ?_;show(step a H1).Aa _=_;exact af e h
theorem mK{step:Lc->AM (Fl×Lc)}(a:src k H=.ok none H):jK c t src step (n+1) k l H=.ok (.Aa,l) H:=by
 show(src k H).Aa _=_;exact af a rfl
noncomputable abbrev aiT:List S:=[.C (.I .NotEq (.G (.F 33) [.A 0,.D [.C "field",.H (.A 2)<|.B 0]])<|.H (.A 2)<|.B 1) [.B<|.S false] []]
theorem ams{sc:V}(f:∀n v,vf H sc n=some v->c 33 [sc,io n] H=.ok v H):∀(r a:List kH) (l:Lc) (b:Bool) (n:Nat),l 0=some sc->r.length<n->nmL vf H sc r=some b->
 ∃l',jK c (.A 2) (dO<|.F<|(a++r).map cQ) (au c aiT) n a.length l H=.ok (if b then .Aa else .Ab (.E false),l') H:=by
 intro r
 induction r with
 |nil=>
  intro a l b n i d h;injection h with z1;subst z1;obtain⟨m,rfl⟩:∃m,n=m+1:=⟨n - 1,by haveI:0<n:=d;exact acx this⟩;refine⟨l,mK ?_⟩;show bJ.ok ((a++[]).map cQ)[a.length]? H=_;exact af (QF ..)<|af (List.getElem?_eq_none (by rw [QU];exact Qd _) ..) rfl
 |cons x r p=>
  intro a l b n i d h;obtain⟨m,rfl⟩:∃m,n=m+1:=⟨n - 1,by haveI:r.length+1<n:=d;exact acx this⟩;revert h;refine dy λv j h=>?_;revert h;refine dy λk g h=>?_;have src:dO (.F<|(a++x::r).map cQ) a.length H=.ok (some<|cQ x) H:=by
   show bJ.ok ((a++x::r).map cQ)[a.length]? H=_;refine af (QD ..) ?_;refine af (QE (Qd _) ..) ?_;exact af (Nat.sub_self ..) rfl
  haveI o:(l.Aa 2<|cQ x) 0=some sc:=i;have cmp:eO .NotEq v (.A x.2) H=.ok (.E<|!k) H:=by
   clear j
   cases v with
   |C=>injection g with z2;subst z2;rfl
   |A _=>injection g with z3;subst z3;exact qO rfl
   |_=>exact ar g
  haveI t:bj c (.I .NotEq (.G (.F 33) [.A 0,.D [.C "field",.H (.A 2)<|.B 0]])<|.H (.A 2)<|.B 1) (l.Aa 2<|cQ x) H=.ok (!k) H:=
   am (av (ae (aa o)<|ae (bf<|ae rfl<|ae (aJ (aa rfl) rfl<|bu (i:=0) rfl) aj) aj)<|f _ _ j) (aJ (aa rfl) rfl<|bu (i:=1) rfl) cmp
  cases k with
  |false=>
   injection h with z4;subst z4;exact⟨l.Aa 2<|cQ x,aau src rfl<|bb<|aK t<|aI rfl⟩
  |true=>
   refine bC (p (a++[x]) (l.Aa 2<|cQ x) b m o (by haveI:r.length+1<m+1:=d;exact Qm ‹_›) h) λl' e=>?_;rw [Qn,Qi] at e;exact⟨l',fH src rfl (ah (aH t) aV) e⟩
theorem vb(x:Str)(l:List (Str×List kH))(n:List kH):l.all (λp=>decide (p.2.length<1000))=true->lZ x l=some n->n.length<1000:=by
 induction l with
 |nil=>intro _ h;exact ar h
 |cons p r b=>
  intro a h;have a:=Qs.mp a;haveI h:(if p.1=x then some p.2 else lZ x r)=some n:=h
  by_cases q:p.1=x
  ·rw [Qh q] at h;haveI c:=Qb h;subst c;exact Ql a.1
  ·rw [Qe q] at h;exact b a.2 h
theorem aiU(d:c 11=cU gj)(f:∀H sc n v,vf H sc n=some v->c 33 [sc,io n] H=.ok v H):Ct c 31 (uZ vf):=by
 intro args H r _ _ h;revert h;refine dy λo k h=>?_;obtain⟨sc,t⟩:=o;revert h;refine dy λa l h=>bo h λb g p=>?_;injection p with z7;subst z7;clear h;refine aP (cH l) λq m=>?_;subst q;refine af (eW k) ?_;clear k l;dsimp only at g ⊢;refine bo g λns i s=>?_;clear g;haveI hs:=vb a gI ns (by decide+kernel) i;refine bC (ams (vf:=vf) (c:=c) (H:=H) (sc:=sc) (λn v=>f H sc n v) ns [] (λj=>[sc,V.D a][j]?) b 1001 rfl (Nat.le_succ_of_le ‹_›) s) λl' e=>.inl<|QR ?_
 cases b with
 |true=>
  apply aE (fd:=fv) (vs:=[sc,.D a]) rfl rfl;exact ah (eF (av (ae (aa rfl) aj)<|xO d m i) e)<|aI rfl
 |false=>
  apply aE (fd:=fv) (vs:=[sc,.D a]) rfl rfl;exact bb<|eF (av (ae (aa rfl) aj)<|xO d m i) e
structure PlD where
 Aa:Str
 Ac:Str
 Ab:Nat
 Ad:Nat
def ahr(f:V):Option PlD:=(abI f).bind λl=>(aas l).bind λq=>(dq q.2.2.1).bind λc=>(abI q.2.2.2.2).bind λr=>(uU r).bind λs=>(lX s.1).bind λa=>(lX s.2.1).bind λbase=>(dq s.2.2).bind λb=>
 some ⟨a,base,b,c⟩
theorem xT(h:ahr f=some d):PyData.strOk d.Aa=true/\PyData.strOk d.Ac=true/\∃a b e,f=.F [a,b,.A d.Ad,e,.F [.D d.Aa,.D d.Ac,.A d.Ab]]:=
 bo h λl j h=>bo h λq k h=>bo h λc m h=>bo h λr n h=>bo h λs o h=>bo h λt g h=>bo h λu i h=>bo h λv p h=>by
  haveI h:=Qb h;subst h;exact⟨(cH g).2,(cH i).2,q.1,q.2.1,q.2.2.2.1,by(exact af (jC j)<|af (mI k)<|af (bQ m)<|af (jC n)<|af (jY o)<|af ((cH g).1)<|af ((cH i).1)<|af (bQ p) rfl)⟩
def rpv(a:Hp->V->Str->Option Bool)(H:Hp)(sc f:V):Option V:=(ahr f).bind λd=>(a H sc d.Aa).bind λb=>if b then(aY H sc "packet").bind λc=>fbv H c d.Ac d.Ab d.Ad else some .C
theorem aiW{c:CF}(g:c 31=cU (uZ vf))(i:c 30=cU pi):Ct c 37 (iM<|rpv<|nmv vf):=by
 intro args H r _ _ h;refine kf (vU h) λsc f v k p l=>?_;subst k;subst l;clear h;refine bo p λd q h=>bo h λs u m=>?_;clear h p;refine gx (xT q) λw p2 n=>ze n λa b e o=>?_;subst o;clear q;refine .inl<|QR ?_;have s1:aN c (.A (.D [.A 2,.A 3,.A 4])<|.H (.A 1)<|.B 4) (λj=>[sc,V.F [a,b,.A d.Ad,e,.F [.D d.Aa,.D d.Ac,.A d.Ab]]][j]?) H=.ok (.Aa,((Lc.Aa (λj=>[sc,V.F [a,b,.A d.Ad,e,.F [.D d.Aa,.D d.Ac,.A d.Ab]]][j]?) 2<|.D d.Aa).Aa 3<|.D d.Ac).Aa 4<|.A d.Ab) H:=
  cm (aJ (aa rfl) rfl<|bu (i:=4) rfl) (nz rfl rfl)
 haveI t:=abK<|sv (c:=c) (g:=31) (es:=[.A 0,.A 2]) (l:=((Lc.Aa (λj=>[sc,V.F [a,b,.A d.Ad,e,.F [.D d.Aa,.D d.Ac,.A d.Ab]]][j]?) 2<|.D d.Aa).Aa 3<|.D d.Ac).Aa 4<|.A d.Ab) (ae (aa rfl)<|ae (aa rfl) aj)<|amr g w u
 cases s with
 |true=>
  refine bo m λz x y=>?_;clear m;apply aE (fd:=df) (vs:=[sc,.F [a,b,.A d.Ad,e,.F [.D d.Aa,.D d.Ac,.A d.Ab]]]) rfl rfl;exact ah s1<|ah (aH t)<|aI<|av (ae (bB (aa rfl) x)<|ae (aa rfl)<|ae (aa rfl)<|ae (aJ (aa rfl) rfl<|bu (i:=2) rfl) aj)<|amo i p2 y
 |false=>
  injection m with z14;subst z14;apply aE (fd:=df) (vs:=[sc,.F [a,b,.A d.Ad,e,.F [.D d.Aa,.D d.Ac,.A d.Ab]]]) rfl rfl;exact ah s1<|bb<|aK t<|aI rfl
def fq(H:Hp)(k:Nat):Prop:=∃(l:List Int) (a:Nat) (s:Int),H[1]?=some (.A [.B 0,.A a,.A s])/\H[0]?=some (.A<|l.map .A)/\l.length<=63/\a<=k
theorem fq.of(b:H'[0]?=H[0]?)(c:H'[1]?=H[1]?)(P:fq H k):fq H' k:=by
 refine kf P λl a s d e f=>?_;clear P;exact vg l a s (c.trans d) (b.trans e) f
theorem fq.Ac(P:fq H k):1<H.length:=by
 refine oq P λl a s b _=>?_;clear P;exact(Qg.mp b).1
theorem fq.Aa(P:fq H k):fq (H++G) k:=P.of (Qj<|Nat.lt_of_succ_lt P.Ac)<|Qj P.Ac
theorem fq.Ad(a:1<H.length)(P:fq (H++G) k):fq H k:=P.of (Qj<|Nat.lt_of_succ_lt a).symm (Qj a).symm
theorem fq.Ab(h:k<=j)(P:fq H k):fq H j:=by
 refine ahg P λl a s b c d e=>?_;clear P;exact vh l a s b c d<|Qa e h
def dI(c:CF):Prop:=∀H k,fq H k->k<=5000->∃x o,c 41 [.B 1] H=.ok (.A x) (H.set 1 o)/\fq (H.set 1 o) (k+1)
theorem dw{i j:Nat}(h:H[i]?=some (.A xs))(a:xs[j]?=some v)(b:xs.length<=1000000):nZ (.B i) (.A j) H=.ok v H:=by
 show(bX i H).Aa _=_;refine af (bO h) ?_;show cs (idx j xs.length) _ H=_;refine af (pT (Qg.mp a).1 b) ?_;show cs xs[j]? _ H=_;exact af a rfl
theorem gk(h:H[i]?=some (.A xs))(a:xs.length<=16777216):jb "len" [.B i] H=.ok (.A xs.length) H:=by
 show(bX i H).Aa _=_;exact af (bO h)<|bT (p:=cx xs.length) a
theorem dY{xs:List V}(h:H[i]?=some (.A xs))(a:j<xs.length)(b:xs.length<=1000000):fQ (.B i) (.A j) v H=.ok () (H.set i<|.A<|xs.set j v):=by
 show(bX i H).Aa _=_;refine af (bO h) ?_;show cs (idx j xs.length) _ H=_;exact af (pT a b)<|lu h
theorem pj(a:l d=some (.B j))(b:ak c i l H=.ok kv H)(hs:fQ (.B j) kv v H=.ok () H'):jc c (.B (.A d) i) v l H=.ok l H':=by
 show(ak c (.A d) l H).Aa _=_;refine af (aa a) ?_;show(ak c i l H).Aa _=_;refine af b ?_;show(fQ (.B j) kv v H).Aa _=_;exact af hs rfl
theorem agA(h:Builtin.Int.intBits p<=64):mq .Mult (.A p) (.A q) H=.ok (.A<|p*q) H:=eX<|.of_left h
theorem agB(c:CF):dI (λx=>aM c x):=by
 intro H k P u;refine ahg P λl a s d v w i=>?_;clear P;haveI y:=(Qg.mp d).1;generalize m:O.A [.B 0,.A (a+1:Nat),.A s]=o;have e:(H.set 1 o)[1]?=some (.A [.B 0,.A (a+1:Nat),.A s]):=by exact cI m<|nF d
 have f:(H.set 1 o)[0]?=some (.A<|l.map .A):=by refine af (QA nb) ?_;exact v
 haveI n:fq (H.set 1 o) (k+1):=vh l (a+1) s e f w<|QQ i;have s1:aN c (.A (.A 1)<|.H (.A 0)<|.B 1) (λj=>[V.B 1][j]?) H=.ok (.Aa,Lc.Aa (λj=>[V.B 1][j]?) 1<|.A a) H:=az<|aJ (aa rfl) rfl<|dw (j:=1) d rfl (by show 3<=_;decide);have p:aN c (.A (.B (.A 0)<|.B 1)<|.E .Add (.A 1)<|.B 1) (Lc.Aa (λj=>[V.B 1][j]?) 1<|.A a) H=.ok (.Aa,Lc.Aa (λj=>[V.B 1][j]?) 1<|.A a) (H.set 1 o):=
  cm (aq (aa rfl) rfl rfl) (pj rfl rfl<|(dY (j:=1) d (by show 1<3;decide)<|by show 3<=_;decide).trans<|by exact cI m rfl)
 haveI r:ak c (.H (.A 0)<|.B 0) (Lc.Aa (λj=>[V.B 1][j]?) 1<|.A a) (H.set 1 o)=.ok (.B 0) (H.set 1 o):=aJ (aa rfl) rfl<|dw (j:=0) e rfl (by show 3<=_;decide);haveI g:(l.map V.A).length=l.length:=QU ..;have t:∀{b:Bool},decide ((a:Int)<l.length)=b->bj c (.I .Lt (.A 1)<|.K "len" [.H (.A 0)<|.B 0]) (Lc.Aa (λj=>[V.B 1][j]?) 1<|.A a) (H.set 1 o)=.ok b (H.set 1 o):=λh=>am (aa rfl) (bh (ae r aj)<|gk f<|by exact af g<|Qa ‹_› lb)<|hZ (by exact af g h)
 by_cases z:a<l.length
 ·refine qc (l[a]) o ?_ n;apply aE (fd:=fY) (vs:=[.B 1]) rfl rfl;exact ah s1<|ah p<|bb<|aK (t<|dh<|Zf.mpr z)<|aI<|aJ r (aa rfl)<|dw (j:=a) f (by(refine af (QD) ?_;refine af (Qw z) ?_);rfl) (by exact af g<|Qa ‹_› lb)
 ·refine qc ((a+3)*(a+7+s)*40503/ 64) o ?_ n;haveI h:Builtin.Int.intBits ((a+3:Nat):Int)<=64:=pU<|Qr (show a+3<2^13 from eJ<|Qf (Qa i u)<|Qd 3)<|Nat.pow_le_pow_right lb lb;apply aE (fd:=fY) (vs:=[.B 1]) rfl rfl;exact ah s1<|ah p<|ah (aH<|t<|cy<|λq=>z<|Zf.mp q)<|aI<|aq (aq (aq (aq (aa rfl) rfl rfl) (aq (aq (aa rfl) rfl rfl) (aJ (aa rfl) rfl<|dw (j:=2) e rfl<|by show 3<=_;decide) rfl)<|agA h) rfl<|eX<|.of_right lb) rfl<|eY ⟨dd,lb⟩
noncomputable def ay(b:List UInt8):List V:=b.map λx=>.A x.toNat
theorem aR:(ay b).length=b.length:=QU ..
theorem sy(h:i<b.length):(ay b)[i]?=some (.A<|cW b i):=by
 unfold ay;refine af (QD) ?_;exact af ((qP h).1)<|af ((qP h).2) rfl
def mc(c:CF):Prop:=∀H k (n:Nat),fq H k->k<=5000->n<=1000->∃b o,c 42 [.B 1,.A n] H=.ok (.B H.length) (H.set 1 o++[.A<|ay b])/\b.length=n/\fq (H.set 1 o) (k+1)
theorem lcg(a:0<=x)(g:x<65537):∃u:UInt8,x%251+x/ 13107=(u.toNat:Int):=by
 haveI b:0<=x%251:=Int.emod_nonneg _ dd;haveI c:x%251<251:=Int.emod_lt_of_pos _ dd;haveI e:0<=x/ 13107:=Int.ediv_nonneg a dd;haveI f:x/ 13107<6:=Int.ediv_lt_of_lt_mul dd<|Int.lt_of_lt_of_le ‹_› dd;haveI key:∀m d:Int,0<=m->m<251->0<=d->d<6->0<=m+d/\m+d<256:=by intros;lia
 haveI:=key _ _ b c e f;refine⟨UInt8.ofNat (x%251+x/ 13107).toNat,?_⟩;exact af (Zi<|(Int.toNat_lt this.1).mpr this.2)<|af (Int.toNat_of_nonneg this.1) rfl
theorem aiZ:sC d f [x]=f x:=rfl
theorem xW:vC d (.I i) n b f s y t r e g=r i:=rfl
theorem pn{n j:Nat}(a:j<n)(b:n<=1000):dO (.I n) j H=.ok (some<|.A j) H:=by
 exact(congrFun xW H).trans<| (bT (p:= -1000000<(n:Int)/\(n:Int)<1000000) ⟨by lia,zA b⟩).trans (by exact af (Qh<|Zf.mpr a) rfl)
theorem nG{n:Nat}(a:n<=1000):dO (.I n) n H=.ok none H:=by
 exact(congrFun xW H).trans<| (bT (p:= -1000000<(n:Int)/\(n:Int)<1000000) ⟨by lia,zA a⟩).trans (by exact af (Qe<|Int.lt_irrefl _) rfl)
theorem abM:lf (.I n) G k H=dO (.I n) k H:=congrFun (congrFun xW k) H
theorem pV(a:ak c e l H=.ok (.I n) H1)(b:jK c t (dO<|.I n) (au c sb) 1001 0 l H1=.ok (d,l') f):aN c (.E t e sb) l H=.ok (d,l') f:=eF a<|af (show lf (.I n) H1=dO (.I n) from xW) b
theorem mM{n:Nat}(a:n<=1000):jb "range" [.A n] H=.ok (.I n) H:=by
 unfold jb;refine af (Qe<|by decide+kernel)<|af (Qe<|by decide+kernel)<|af (Qh rfl) ?_;unfold aaX;exact(congrFun aiZ H).trans<|(congrFun afe H).trans<|bT (p:= -1000<(n:Int)/\(n:Int)<1000000) ⟨by lia,zA a⟩
theorem aav{c:CF}(N:dI c):mc (λx=>aM c x):=by
 intro H k n P t i;refine cM (N (H++[.A []]) k P.Aa t) λx o m p=>?_;haveI f:(H++[O.A []]).set 1 o=H.set 1 o++[.A []]:=List.set_append_left _ _ P.Ac;rw [f] at m p;haveI v:fq (H.set 1 o) (k+1):=p.Ad (by exact af Qo P.Ac);haveI a:(H.set 1 o).length=H.length:=Qo ..;haveI g:∀{l:List V},(H.set 1 o++[O.A l])[H.length]?=some (.A l):=λ{l}=>by exact cI a<|bn (k:=0)
 obtain⟨l',H',e,w,b,A,B,I⟩:=gR (c:=c) (t:=.A 4) (src:=lf (.I n)<|H.set 1 o++[.A []]) (step:=au c [.A (.A 3)<|.E .Mod (.E .Add (.E .Mult (.A 3)<|.B 75)<|.B 74)<|.B 65537,.D<|.R (.A 2) "append" [.E .Add (.E .Mod (.A 3)<|.B 251)<|.E .FloorDiv (.A 3)<|.B 13107]]) (n:=n)
  (λj d H'=>d 2=some (.B H.length)/\∃b:List UInt8,b.length=j/\H'=H.set 1 o++[.A<|ay b]/\∃y:Int,d 3=some (.A y)) (λj=>.A j)
  (λj d H' q ⟨r,b,s,C,y,D⟩=>by
   subst C;generalize hz:(y*75+74)%65537=z;haveI h:0<=z/\z<65537:=hz ▸⟨Int.emod_nonneg _ dd,Int.emod_lt_of_pos _ dd⟩;refine bC (lcg h.1 h.2) λu E=>⟨abM.trans<|pn q i,d.Aa 4<|.A j,_,(d.Aa 4<|.A j).Aa 3<|.A z,H.set 1 o++[.A<|ay<|b++[u]],rfl,?_,r,b++[u],by(refine af Qi ?_;refine af s ?_);rfl,rfl,z,rfl⟩;refine ah (az<|aq (aq (aq (aa (show(d.Aa 4 _) 3=_ from D)) rfl<|eX (q:=75)<|.of_right lb) rfl rfl) rfl<|(bL (q:=65537) dd).trans<|by exact af hz rfl)<|ah (jm<|nB (aa (show((d.Aa 4 _).Aa 3 _) 2=_ from r)) (mG g) (ae (aq (aq (aa rfl) rfl<|bL dd) (aq (aa rfl) rfl<|eY ⟨dd,lb⟩) rfl) aj)<|mF g<|by refine af aR ?_;exact eJ<|Qa (Qk s)<|Qa (Zq q) i) ?_;exact af E<|cI a<|af (show List.set (H.set 1 o++[O.A<|ay b]) (H.set 1 o).length (.A<|ay b++[.A u.toNat])=H.set 1 o++[.A<|ay<|b++[u]] from(fO (k:=0)).trans<|by unfold ay;rw [ZL];rfl) aV)
  (λd H' _=>abM.trans<|nG i) 1001 0 (Lc.Aa (Lc.Aa (λj=>[V.B 1,.A n][j]?) 3<|.A<|x%65537) 2<|.B H.length) (H.set 1 o++[.A []]) (QO _) (Nat.lt_succ_of_le ‹_›) ⟨rfl,[],rfl,rfl,x%65537,rfl⟩
 refine qe b o ?_ A v;subst B;haveI F:ak c (.K "range" [.A 1]) (Lc.Aa (Lc.Aa (λj=>[V.B 1,.A n][j]?) 3<|.A<|x%65537) 2<|.B H.length) (H.set 1 o++[.A []])=.ok (.I n) (H.set 1 o++[.A []]):=bh (vs:=[.A n]) (ae (aa rfl) aj)<|mM i;apply aE (fd:=gQ) (vs:=[.B 1,.A n]) rfl rfl;haveI G:aN c (.G [2,3]<|.D [.M [],.E .Mod (.G (.F 41) [.A 0])<|.B 65537]) (λj=>[V.B 1,.A n][j]?) H=.ok (.Aa,Lc.Aa (Lc.Aa (λj=>[V.B 1,.A n][j]?) 3<|.A<|x%65537) 2<|.B H.length) (H.set 1 o++[.A []]):=by
  show(ak c (.D [.M [],.E .Mod (.G (.F 41) [.A 0])<|.B 65537]) (λj=>[V.B 1,.A n][j]?) H).Aa _=_;exact af (bf<|ae (cV aj)<|ae (aq (av (ae (aa rfl) aj) m) rfl<|bL dd) aj) rfl
 exact ah G<|ah (eF F e)<|aI<|aa w
theorem adD{p:Nat->Prop}{l:List Nat}(h:∀w∈l,p w)(q:j<l.length):∃w:Nat,(l.map λn:Nat=>V.A n)[j]?=some (.A w)/\p w:=⟨l[j],by rw [QD,Qw q];rfl,h _<|List.getElem_mem q⟩
theorem dj(x:Int)(h:0<m):∃j:Nat,j<m/\x%m=(j:Int):=
 (bv (x%m).toNat (by haveI:=Int.emod_nonneg x (show(m:Int)≠0 by lia);haveI:=Int.emod_lt_of_pos x (show(0:Int)<m by exact Zf.mpr ‹_›);lia) (Int.toNat_of_nonneg<|Int.emod_nonneg x<|by lia).symm)
theorem kI{i v:Nat}(a:v<256):(ay b).set i (.A v)=ay (b.set i<|UInt8.ofNat v):=by
 unfold ay;exact af List.map_set<|af (Zi a) rfl
theorem xX(h:H[i]?=some (.A xs)):lf (.B i) H k H=.ok xs[k]? H:=by
 show(Option.elim H[i]? (λ_=>AM.Ac) λa=>oC (λ_=>AM.Ac) a (dict:=uB i) (list:=λ_=>lg i) (barr:=λ_=>uA i)) k H=_;refine af h ?_;show(bX i H).Aa _=_;exact af (bO h) rfl
theorem gV{j:Nat}(a:xs[j]?=some v)(b:xs.length<=1000000):nZ (.F xs) (.A j) H=.ok v H:=by
 show cs (idx j xs.length) _ H=_;refine af (pT (Qg.mp a).1 b) ?_;show cs xs[j]? _ H=_;exact af a rfl
def lz(c:CF):Prop:=∀H (i:Nat) b,H[i]?=some (.A<|ay b)->b.length<=200->c 44 [.B i] H=.ok (.A<|aQ b) H
theorem adE(c:CF):lz (λx=>aM c x):=by
 intro H i b h l;obtain⟨l',H',e,g,q⟩:=gR (c:=c) (t:=.A 2) (src:=lf (.B i) H) (step:=au c [.A (.A 1)<|.E .Add (.E .Mult (.A 1)<|.B 256)<|.A 2]) (n:=b.length)
  (λk a H'=>H'=H/\a 1=some (.A<|aQ<|b.take k)) (λk=>.A<|cW b k)
  (λk a H' d f=>aP f λe q=>by
   subst e;refine⟨by(refine af (xX h) ?_;exact af (sy d) rfl),_,_,_,_,rfl,ah (az<|aq (aq (aa q) rfl<|eX (q:=256)<|.of_right lb) (aa rfl) rfl) aV,rfl,?_⟩;exact af (qQ b d)<|cI ((qP d).2) rfl)
  (λa H' f=>aP f λe q=>by(exact af e<|af (xX h)<|af (List.getElem?_eq_none<|by rw [aR];exact Qd _) rfl)) 1001 0 (Lc.Aa (λj=>[V.B i][j]?) 1<|.A 0) H (QO _) (Qv ‹_› lb) ⟨rfl,rfl⟩
 subst g;apply aE (fd:=iG) (vs:=[.B i]) rfl rfl;exact ah (az rfl)<|ah (eF (aa rfl) e)<|aI<|aa (by(refine af q ?_;exact af List.take_length rfl))
def nH(c:CF):Prop:=∀H (i:Nat) b,H[i]?=some (.A<|ay b)->b.length<=200->c 46 [.B i] H=.ok (bU<|ji b) H
theorem adF(c:CF):nH (λx=>aM c x):=by
 intro H i b h F;have d:ak c (.K "len" [.A 0]) (λj=>[V.B i][j]?) H=.ok (.A b.length) H:=bh (ae (aa rfl) aj)<|(gk h<|by exact af aR<|Qa ‹_› lb).trans (by exact af aR rfl);have g:∀{l:Lc} (j:Nat),l 0=some (.B i)->j<b.length->ak c (.H (.A 0)<|.B j) l H=.ok (.A<|cW b j) H:=λj n D=>aJ (aa n) rfl<|dw h (sy D) (by exact af aR<|Qa ‹_› lb);have z:∀(k:Nat),(0:Int)<(k:Int)/\Builtin.Int.intBits (k:Int)<=8000->∀{l:Lc} {a:X} {m:Nat},ak c a l H=.ok (.A m) H->ak c (.E .FloorDiv a<|.B k) l H=.ok (.A (m/ k:Nat)) H:=λk s l a m t=>aq t rfl<|eY s;have u:∀(k:Nat),(0:Int)<(k:Int)->∀{l:Lc} {a:X} {m:Nat},ak c a l H=.ok (.A m) H->ak c (.E .Mod a<|.B k) l H=.ok (.A (m%k:Nat)) H:=λk s l a m t=>aq t rfl<|bL s
 by_cases e:b.length<20
 ·refine af (show ji b=none from Qe λx=>Nat.not_le.mpr e x.1) ?_;apply aE (fd:=bY) (vs:=[.B i]) rfl rfl;exact bb<|aK (cu (d:=false)<|am d rfl<|abF (n:=20) e)<|aI rfl
 have e:=QW e;have A:0<b.length:=Qr lb e;have o:bj c (.I .Lt (.K "len" [.A 0])<|.B 20) (λj=>[V.B i][j]?) H=.ok false H:=am d rfl<|vk (n:=20) e;haveI B:=z 16 ⟨dd,lb⟩<|g (l:=λj=>[V.B i][j]?) 0 rfl A;have v:∀{l:Lc},l 0=some (.B i)->ak c (.E .Mod (.H (.A 0)<|.B 0)<|.B 16) l H=.ok (.A (cW b 0%16:Nat)) H:=λn=>u 16 dd<|g 0 n A;have w:∀{l:Lc},l 0=some (.B i)->ak c (.E .Mult (.E .Mod (.H (.A 0)<|.B 0)<|.B 16)<|.B 4) l H=.ok (.A (cW b 0%16*4:Nat)) H:=λn=>aq (v n) rfl<|eX (q:=4)<|.of_right lb
 by_cases p:cW b 0/ 16=4
 case neg=>
  refine af (show ji b=none from Qe λx=>p x.2.1) ?_;apply aE (fd:=bY) (vs:=[.B i]) rfl rfl;exact bb<|aK (bD o<|cu (d:=false)<|am B rfl<|anm (n:=4) p)<|aI rfl
 have y:=am (op:=.NotEq) B (b:=.B 4) (y:=.A 4) rfl<|alA (n:=4) p
 by_cases f:cW b 0%16<5
 ·refine af (show ji b=none from Qe λx=>Nat.not_le.mpr f x.2.2.1) ?_;apply aE (fd:=bY) (vs:=[.B i]) rfl rfl;exact bb<|aK (bD o<|bD y<|cu (d:=false)<|am (v rfl) rfl<|abF (n:=5) f)<|aI rfl
 haveI f:=QW f;have C:=am (op:=.Lt) (v (l:=λj=>[V.B i][j]?) rfl) (b:=.B 5) (y:=.A 5) rfl<|vk (n:=5) f
 by_cases r:cW b 0%16*4<=b.length
 case neg=>
  refine af (show ji b=none from Qe λx=>r x.2.2.2) ?_;apply aE (fd:=bY) (vs:=[.B i]) rfl rfl;exact bb<|aK (bD o<|bD y<|bD C<|cu (d:=false)<|am (w rfl) d<|alB<|Nat.lt_of_not_le r)<|aI rfl
 refine af (show ji b=some (cW b 9,cW b 0%16*4,lE b%8192*8,decide (lE b/ 8192%2=1)) from Qh ⟨e,p,f,r⟩) ?_;haveI E:ak c (.E .Add (.E .Mult (.H (.A 0)<|.B 6)<|.B 256)<|.H (.A 0)<|.B 7) (λj=>[V.B i][j]?) H=.ok (.A<|lE b) H:=aq (aq (g 6 rfl<|Qr lb e) rfl<|eX (q:=256)<|.of_right lb) (g 7 rfl<|Qr lb e) rfl;apply aE (fd:=bY) (vs:=[.B i]) rfl rfl;refine ah (aH<|bD o<|bD y<|bD C<|bD (am (w rfl) d<|alC r) fL)<|ah (az E)<|aI<|bf<|ae (g 9 rfl<|Qr lb e)<|ae (w rfl)<|ae (aq (u 8192 dd<|aa rfl) rfl<|eX (q:=8)<|.of_right lb)<|ae (ia (u 2 dd<|z 8192 ⟨dd,lb⟩<|aa rfl) rfl<|(dC rfl).trans ?_) aj;congr 2;exact decide_eq_decide.mpr ⟨λq=>ZJ q,λq=>Qt Int.ofNat q⟩
def qR(c:CF):Prop:=∀H k (p:Nat),fq H k->k<=4000->p<256->∃b o,c 45 [.B 1,.A p] H=.ok (.B H.length) (H.set 1 o++[.A<|ay b])/\25<=b.length/\b.length<=100/\fq (H.set 1 o) (k+4)
theorem fA{L:List O}(h:1<H.length):(H++L).set 1 o=H.set 1 o++L:=List.set_append_left _ _ h
theorem agC(N:dI c)(O_:mc c):qR (λx=>aM c x):=by
 intro H k p P M hp;refine cM (N H k P<|Qa ‹_› lb) λx1 C e1 P1=>aT (dj x1 (m:=6) lb) λD E q1=>?_;refine eI (show ∃w:Nat,[V.A 5,.A 6,.A 5,.A 7,.A 4,.A 15][D]?=some (.A w)/\4<=w/\w<=15 from adD (l:=[5,6,5,7,4,15]) (by decide) E) λw hw d e=>?_
 refine dN (O_ (H.set 1 C) (k+1) (4*w+24) P1 (Qv ‹_› lb)<|aU<|Qf (QJ (Qd 4) e)<|Qd 24) λb n Q l R=>?_;rw [Qo,Ze] at Q;rw [Ze] at R;refine cM (N (H.set 1 n++[.A<|ay b]) (k+2) R.Aa<|aU<|Qf M<|Qd 2) λU r W v=>?_;have l2:1<(H.set 1 n).length:=by exact af Qo P.Ac
 rw [fA l2,Ze] at W v;haveI v:=v.Ad (by exact af Qo P.Ac);have h:∀{o:O} {xs:List V},(H.set 1 o++[O.A xs])[H.length]?=some (.A xs):=λ{o xs}=>by exact cI (Qo (as:=H) (i:=1) (a:=o))<|bn (k:=0)
 have st:∀{o:O} {xs ys:List V},(H.set 1 o++[O.A xs]).set H.length (.A ys)=H.set 1 o++[.A ys]:=λ{o xs ys}=>by
  haveI q:=fO (H:=H.set 1 o) (L:=[O.A xs]) (k:=0) (o:=.A ys);rw [Nat.add_zero,Qo] at q;exact q
 refine aT (dj U (m:=8) lb) λF b6 q3=>?_;obtain⟨y,G,s⟩:∃y:Nat,(ak c (.E .Add (.O (.I .Eq (.E .Mod (.G (.F 41) [.A 0])<|.B 8)<|.B 7) (.B 80)<|.B 64)<|.A 2) (Lc.Aa (Lc.Aa (λj=>[V.B 1,.A p][j]?) 2<|.A w) 3<|.B H.length) (H.set 1 n++[.A<|ay b])=.ok (.A y) (H.set 1 r++[.A<|ay b]))/\y<256:=by
  haveI t:∀{z:Bool},decide ((F:Int)=7)=z->bj c (.I .Eq (.E .Mod (.G (.F 41) [.A 0])<|.B 8)<|.B 7) (Lc.Aa (Lc.Aa (λj=>[V.B 1,.A p][j]?) 2<|.A w) 3<|.B H.length) (H.set 1 n++[.A<|ay b])=.ok z (H.set 1 r++[.A<|ay b]):=λhz=>am (aq (av (ae (aa rfl) aj) W) rfl<|(bL (q:=8) dd).trans<|by exact af (show U%8=(F:Int) from q3) rfl) rfl<|dC hz
  by_cases z:F=7
  ·exact bv (80+w) (aq (cf (t<|dh<|Qt _ ‹_›) rfl) (aa rfl) rfl)<|eJ<|Qf (Qd 80) e
  ·exact bv (64+w) (aq (ci (t<|cy<|by lia) rfl) (aa rfl) rfl)<|eJ<|Qf (Qd 64) e
 generalize u:b.set 0 (UInt8.ofNat y)=f;have g:f.length=b.length:=by(exact cI u<|af Qo rfl)
 refine cM (N (H.set 1 r++[.A<|ay f]) (k+3) v.Aa<|aU<|Qf M<|Qd 3) λY m Z A=>?_;rw [fA<|by exact af Qo P.Ac,Ze] at Z A;haveI A:=A.Ad (by exact af Qo P.Ac);refine aT (dj Y (m:=6) lb) λI J q4=>?_;refine aT (show ∃w:Nat,[V.A 0,.A 16384,.A 8192,.A 8193,.A 8191,.A 32768][I]?=some (.A w)/\w<65536 from adD (l:=[0,16384,8192,8193,8191,32768]) (by decide) J) λa K b9=>?_
 refine wc (((f.set 6<|UInt8.ofNat<|a/ 256).set 7<|UInt8.ofNat<|a%256).set 9<|UInt8.ofNat p) m ?_ (by simp only [Qo,g,l];exact acw<|Qf (QJ (Qd 4) d)<|Qd 24) (by simp only [Qo,g,l];exact aU<|Qf (QJ (Qd 4) e)<|Qd 24) A;haveI s1:aN c (.A (.A 2)<|.H (.D [.B 5,.B 6,.B 5,.B 7,.B 4,.B 15])<|.E .Mod (.G (.F 41) [.A 0])<|.B 6) (λj=>[V.B 1,.A p][j]?) H=.ok (.Aa,Lc.Aa (λj=>[V.B 1,.A p][j]?) 2<|.A w) (H.set 1 C):=
  az (aJ (x:=.F [.A 5,.A 6,.A 5,.A 7,.A 4,.A 15]) (y:=.A D) rfl (aq (av (ae (aa rfl) aj) e1) rfl<|(bL (q:=6) dd).trans<|by exact af (show x1%6=(D:Int) from q1) rfl)<|gV hw<|by show 6<=_;decide)
 haveI s2:aN c (.A (.A 3)<|.G (.F 42) [.A 0,.E .Add (.E .Mult (.B 4)<|.A 2)<|.B 24]) (Lc.Aa (λj=>[V.B 1,.A p][j]?) 2<|.A w) (H.set 1 C)=.ok (.Aa,Lc.Aa (Lc.Aa (λj=>[V.B 1,.A p][j]?) 2<|.A w) 3<|.B H.length) (H.set 1 n++[.A<|ay b]):=
  az (av (ae (aa rfl)<|ae (aq (aq rfl (aa rfl)<|eX (p:=4)<|.of_left lb) rfl rfl) aj) Q)
 haveI s3:aN c (.A (.B (.A 3)<|.B 0)<|.E .Add (.O (.I .Eq (.E .Mod (.G (.F 41) [.A 0])<|.B 8)<|.B 7) (.B 80)<|.B 64)<|.A 2) (Lc.Aa (Lc.Aa (λj=>[V.B 1,.A p][j]?) 2<|.A w) 3<|.B H.length) (H.set 1 n++[.A<|ay b])=.ok (.Aa,Lc.Aa (Lc.Aa (λj=>[V.B 1,.A p][j]?) 2<|.A w) 3<|.B H.length) (H.set 1 r++[.A<|ay f]):=
  cm G (pj rfl rfl<|(dY (j:=0) h (by exact af aR<|mT<|leq l<|Qf (QJ (Qd 4) d)<|Qd 24)<|by exact af aR<|aU<|Qa (Qk l)<|Qf (QJ (Qd 4) e)<|Qd 24).trans<|by(exact af (kI s)<|af u<|af st rfl))
 haveI s4:aN c (.A (.A 4)<|.H (.D [.B 0,.B 16384,.B 8192,.B 8193,.B 8191,.B 32768])<|.E .Mod (.G (.F 41) [.A 0])<|.B 6) (Lc.Aa (Lc.Aa (λj=>[V.B 1,.A p][j]?) 2<|.A w) 3<|.B H.length) (H.set 1 r++[.A<|ay f])=.ok (.Aa,Lc.Aa (Lc.Aa (Lc.Aa (λj=>[V.B 1,.A p][j]?) 2<|.A w) 3<|.B H.length) 4<|.A a) (H.set 1 m++[.A<|ay f]):=
  az (aJ (x:=.F [.A 0,.A 16384,.A 8192,.A 8193,.A 8191,.A 32768]) (y:=.A I) rfl (aq (av (ae (aa rfl) aj) Z) rfl<|(bL (q:=6) dd).trans<|by exact af (show Y%6=(I:Int) from q4) rfl)<|gV K<|by show 6<=_;decide)
 haveI a6:=dY (H:=H.set 1 m++[.A<|ay f]) (j:=6) (v:=.A (a/ 256:Nat)) h (by exact af aR<|mT<|leq g<|leq l<|Qf (QJ (Qd 4) d)<|Qd 24) (by refine af aR ?_;lia);rw [kI<|by lia,st] at a6;haveI a7:=dY (H:=H.set 1 m++[.A<|ay<|f.set 6<|UInt8.ofNat<|a/ 256]) (j:=7) (v:=.A (a%256:Nat)) h (by(refine af aR<|af Qo ?_);exact mT<|leq g<|leq l<|Qf (QJ (Qd 4) d)<|Qd 24) (by(refine af aR<|af Qo ?_);lia);rw [kI<|Nat.mod_lt _ lb,st] at a7;haveI a9:=dY (H:=H.set 1 m++[.A<|ay<|(f.set 6<|UInt8.ofNat<|a/ 256).set 7<|UInt8.ofNat<|a%256]) (j:=9) (v:=.A p) h (by(refine af aR<|af Qo<|af Qo ?_);exact mT<|leq g<|leq l<|Qf (QJ (Qd 4) d)<|Qd 24) (by(refine af aR<|af Qo<|af Qo ?_);lia);rw [kI hp,st] at a9;generalize L:Lc.Aa (Lc.Aa (Lc.Aa (λj=>[V.B 1,.A p][j]?) 2<|.A w) 3<|.B H.length) 4 (.A a)=i at s4;haveI r1:i 1=some (.A p):=L ▸rfl;haveI B:i 3=some (.B H.length):=L ▸rfl;haveI r4:i 4=some (.A a):=L ▸rfl;haveI s5:aN c (.A (.D [.B (.A 3)<|.B 6,.B (.A 3)<|.B 7,.B (.A 3)<|.B 9])<|.D [.E .FloorDiv (.A 4)<|.B 256,.E .Mod (.A 4)<|.B 256,.A 1]) i (H.set 1 m++[.A<|ay f])=.ok (.Aa,i) (H.set 1 m++[.A<|ay<|((f.set 6<|UInt8.ofNat<|a/ 256).set 7<|UInt8.ofNat<|a%256).set 9<|UInt8.ofNat p]):=by
  refine cm (bf<|ae (aq (aa r4) rfl<|eY (q:=256) ⟨dd,lb⟩)<|ae (aq (aa r4) rfl<|bL (q:=256) dd)<|ae (aa r1) aj)<|nz rfl ?_;show(jc c (.B (.A 3)<|.B 6) (.A (a/ 256:Nat)) i _).Aa _=_;refine af (pj B rfl a6) ?_;show(jc c (.B (.A 3)<|.B 7) (.A (a%256:Nat)) i _).Aa _=_;refine af (pj B rfl a7) ?_;show(jc c (.B (.A 3)<|.B 9) (.A p) i _).Aa _=_;exact af (pj B rfl a9) rfl
 apply aE (fd:=jx) (vs:=[.B 1,.A p]) rfl rfl;exact ah s1<|ah s2<|ah s3<|ah s4<|ah s5<|aI<|aa B
noncomputable abbrev Hd:=Nat×List UInt8
noncomputable def nk(p:Nat):List Hd->Nat
 |[]=>p
 |h::_=>h.1
noncomputable def me(p:Nat):List Hd->List UInt8
 |[]=>[]
 |h::r=>UInt8.ofNat (nk p r)::(h.2++me p r)
def abN(b:List UInt8):Nat:=(cW b 1*256+cW b 2)/ 8*8
def sI(b:List UInt8):Bool:=decide (cW b 2%2=1)
def stp(q:Nat×Bool)(h:Hd):Nat×Bool:=if h.1=44 then(abN h.2,sI h.2) else q
def sJ(q:Nat×Bool)(hs:List Hd):Nat×Bool:=hs.foldl stp q
def sK(k:Nat):Prop:=k=0∨k=43∨k=60∨k=51∨k=44
structure alD(h:Hd):Prop where
 k:sK h.1
 Aa:h.2.length+1=vV h.1 (cW h.2 0)
 Ab:h.2.length<=24
inductive lF:Nat×Bool->List Hd->Prop
 |Ab {q}:lF q []
 |Aa {q h r}:q.1=0->alD h->lF (stp q h) r->lF q (h::r)
noncomputable def vm:Nat->List Hd->Bool
 |_,[]=>false
 |a,h::r=>(decide (h.1=0)&&decide (40<a))||vm (a+(h.2.length+1)) r
theorem xY(h:sK k):k<256:=by rcases h with rfl|rfl|rfl|rfl|rfl<;>decide
theorem adG(h:sK k):8<=vV k s:=by
 rcases h with rfl|rfl|rfl|rfl|rfl
 ·exact Nat.le_mul_of_pos_left 8<|ZD s
 ·exact Nat.le_mul_of_pos_left 8<|ZD s
 ·exact Nat.le_mul_of_pos_left 8<|ZD s
 ·show 8<=(s+2)*4;exact acw<|QJ (Qf (QO s)<|Qd 2)<|Qd 4
 ·exact Qd _
theorem iO(h:d<+:b)(a:i<d.length):cW d i=cW b i:=by
 obtain⟨t,rfl⟩:=h;unfold cW;exact af (Qj a) rfl
theorem pW:cW (x++y) (x.length+i)=cW y i:=by
 unfold cW;refine af (QE (Qq _ _) ..) ?_;exact af (ZG ..) rfl
theorem sL(h:i<x.length):cW (x++y) i=cW x i:=by
 unfold cW;exact af (Qj h) rfl
theorem ajb(a:p<256)(c:lF q hs):nk p hs<256:=by
 cases c with|Ab=>exact a|Aa _ h=>exact xY h.k
theorem xZ(Q:p<256)(m:vV p 0=0)(v:d<+:b):∀(hs:List Hd) (c:List UInt8) (f:Bool) (n:Nat),b=c++(me p hs++tail)->lF (0,f) hs->hs.length+2<=n->c.length<=d.length->
 mN d n (nk p hs) c.length 0 f=some (if vm c.length hs=true∨d.length<c.length+(me p hs).length then none else some (p,c.length+(me p hs).length,(sJ (0,f) hs).1,(sJ (0,f) hs).2)):=by
 intro hs
 induction hs with
 |nil=>
  intro c f n D C y L;obtain⟨n,rfl⟩:∃k,n=k+1:=⟨n - 1,acx y⟩;have R:p≠0:=λq=>by rw [q] at m;exact absurd m nb
  refine af (Qe (λq=>by
   rcases q with q|q
   ·injection q
   ·exact absurd L<|Nat.not_le.mpr q)) ?_
  show(if(0:Nat)≠0 then _ else match eZ d c.length p with|none=>some none|some s=>_)=_;refine af (Qe<|λq=>q rfl)<|af (show eZ d c.length p=some 0 from Qh m) ?_;show(if p=0/\40<c.length then some none else if 0=0 then some (some (p,c.length,0,f)) else _)=_;exact af (Qe<|λq=>R q.1)<|af (Qh rfl) rfl
 |cons h r U=>
  intro c f n D C y L;obtain⟨n,rfl⟩:∃k,n=k+1:=⟨n - 1,acx y⟩
  cases C with|Aa _ H E=>
  have o:∀s,8<=vV h.1 s:=λs=>adG H.k;have l:(me p<|h::r).length=(h.2.length+1)+(me p r).length:=by
   show(UInt8.ofNat (nk p r)::(h.2++me p r)).length=_;exact af QG<|af Qi<|ZF _ _ _
  have ob:∀i,i<h.2.length->cW b (c.length+1+i)=cW h.2 i:=λi W=>by
   refine af (D ..)<|af (Zt ..)<|af (pW ..) ?_;show cW (UInt8.ofNat (nk p r)::(h.2++me p r)++tail) (1+i)=_;exact af (show UInt8.ofNat (nk p r)::(h.2++me p r)++tail=[UInt8.ofNat<|nk p r]++(h.2++(me p r++tail)) from by simp)<|(pW (x:=[UInt8.ofNat<|nk p r]) (i:=i)).trans<|sL W
  have F:cW b c.length=nk p r:=by
   refine af D<|af (show c.length=c.length+0 from rfl)<|af pW ?_;show(UInt8.ofNat<|nk p r).toNat=_;exact af (Zi<|ajb Q E) rfl
  haveI G:=H.Aa ▸o (cW h.2 0);show(if(0:Nat)≠0 then _ else match eZ d c.length h.1 with|none=>some none|some s=>if h.1=0/\40<c.length then some none else if s=0 then some (some (h.1,c.length,0,f)) else if h.1=44 then mN d n (cW d c.length) (c.length+s) (iP d c.length) (decide (cW d (c.length+3)%2=1)) else mN d n (cW d c.length) (c.length+s) 0 f)=_;refine af (Qe<|λq=>q rfl) ?_;have t:d.length<c.length+(h.2.length+1)->eZ d c.length h.1=none:=λq=>by
   unfold eZ;refine af (Qe<|aeC<|o 0) ?_
   by_cases I:d.length<c.length+2
   ·exact af (Qh I) rfl
   ·exact af (Qe I)<|af (iO v<|QH.mp I)<|af (show c.length+1=c.length+1+0 from rfl)<|af (ob 0<|amX (d:=1) G)<|cI H.Aa<|af (Qh q) rfl
  by_cases q:d.length<c.length+(h.2.length+1)
  ·exact af (t q)<|af (Qh<|.inr<|by rw [l];exact Qr q<|QB (Qq ..) _) rfl
  have u:eZ d c.length h.1=some (h.2.length+1):=by
   unfold eZ;refine af (Qe<|aeC<|o 0) ?_;have A:c.length+8<=d.length:=Qa (QB G _)<|QH.mp q;exact af (Qe<|QH.mpr<|uz (d:=2) A)<|af (iO v<|uz (d:=2) A)<|af (show c.length+1=c.length+1+0 from rfl)<|af (ob 0<|amX (d:=1) G)<|cI H.Aa<|af (Qe q) rfl
  refine af u ?_;dsimp only
  by_cases z:h.1=0/\40<c.length
  ·exact af (Qh z)<|af (Qh<|.inl<|by show((decide (h.1=0)&&decide (40<c.length))||_)=true;rw [dh z.1,dh z.2];rfl) rfl
  refine af (Qe z)<|af (Qe<|Nat.succ_ne_zero _)<|af (iO v<|Qr (Zs<|ZD _)<|QH.mp q)<|af F ?_;have B:(c++(UInt8.ofNat (nk p r)::h.2)).length=c.length+(h.2.length+1):=by(refine af Qi ?_;exact af QG rfl)
  have J:b=(c++(UInt8.ofNat (nk p r)::h.2))++(me p r++tail):=by
   refine af D ?_;show c++(UInt8.ofNat (nk p r)::(h.2++me p r)++tail)=_;simp
  have Y:vm c.length (h::r)=vm (c.length+(h.2.length+1)) r:=by
   show((decide (h.1=0)&&decide (40<c.length))||vm (c.length+(h.2.length+1)) r)=_;haveI:(decide (h.1=0)&&decide (40<c.length))=false:=by
    cases Z:decide (h.1=0) with
    |false=>rfl
    |true=>cases e2:decide (40<c.length) with
     |false=>rfl
     |true=>exact absurd ⟨Ql Z,Ql e2⟩ z
   exact af this rfl
  have M:∀(q:Nat×Bool),stp (0,f) h=q->mN d n (nk p r) (c.length+(h.2.length+1)) q.1 q.2=some (if vm c.length (h::r)=true∨d.length<c.length+(me p<|h::r).length then none else some (p,c.length+(me p<|h::r).length,(sJ (0,f)<|h::r).1,(sJ (0,f)<|h::r).2)):=by
   intro w N;refine af Y<|af l<|af (show c.length+(h.2.length+1+(me p r).length)=c.length+(h.2.length+1)+(me p r).length from(Zt _ _ _).symm)<|af (show sJ (0,f) (h::r)=sJ w r from by show sJ (stp (0,f) h) r=_;rw [N]) ?_;rw [N] at E;obtain⟨K,P⟩:=w
   by_cases e:K=0
   ·subst e;haveI:=U (c++(UInt8.ofNat (nk p r)::h.2)) P n J E (by haveI:r.length+3<=n+1:=y;exact Qm ‹_›) (by exact af B<|QH.mp ‹_›);rw [B] at this;exact this
   ·cases E with
    |Aa a _ _=>exact absurd a e
    |Ab=>
     obtain⟨n,rfl⟩:∃k,n=k+1:=⟨n - 1,acx<|Nat.le_of_succ_le_succ y⟩;show(if K≠0 then some (some (p,c.length+(h.2.length+1),K,P)) else _)=_;refine af (Qh e) (af (Qe (λx=>by
      rcases x with x|x
      ·injection x
      ·exact q x)) ?_)
     rfl
  by_cases e:h.1=44
  ·refine af (Qh e) ?_;have j:h.2.length+1=8:=by(refine af H.Aa<|af e ?_);rfl
   haveI g:=M (abN h.2,sI h.2)<|Qh e;have c1:iP d c.length=abN h.2:=by
    unfold iP abN;have A:c.length+8<=d.length:=j ▸QH.mp q;exact af (iO v (show c.length+2<d.length from uz (d:=3) A))<|af (iO v (show c.length+3<d.length from uz (d:=4) A))<|af (show c.length+2=c.length+1+1 from rfl)<|af (show c.length+3=c.length+1+2 from rfl)<|af (ob 1<|alr (d:=2) j)<|af (ob 2<|alr (d:=3) j) rfl
   have c2:decide (cW d (c.length+3)%2=1)=sI h.2:=by
    unfold sI;exact af (iO v (show c.length+3<d.length from uz (d:=4)<|j ▸QH.mp q))<|af (show c.length+3=c.length+1+2 from rfl)<|af (ob 2<|alr (d:=3) j) rfl
   exact af c1<|af c2 g
  ·exact af (Qe e)<|M (0,f)<|Qe e
theorem adH(i:p<256)(e:vV p 0=0)(a:Bool)(f:d<+:base++(me p hs++tail))(c:base.length=40)(j:cW base 6=nk p hs)(g:cW base 0/ 16=if a then 4 else 6)(C:lF (0,false) hs)(k:hs.length<=50):
 iQ d=some (if(a||vm 40 hs)=true∨d.length<40+(me p hs).length then none else some (p,40+(me p hs).length,(sJ (0,false) hs).1,(sJ (0,false) hs).2)):=by
 by_cases b:d.length<40
 ·exact af (show iQ d=some none from Qe λx=>Nat.not_le.mpr b x.1)<|af (Qh<|.inr<|Qr b<|Qq 40 (me p hs).length) rfl
 haveI b:=QW b;have h:cW d 0=cW base 0:=(iO f<|Qa (Nat.le_add_left _ _) ‹_›).trans<|sL<|mT<|Qk<|QR c;haveI l:cW d 6=nk p hs:=((iO f<|Qa (Nat.le_add_left _ _) ‹_›).trans<|sL<|mT<|Qk<|QR c).trans j
 cases a with
 |true=>
  exact af (show iQ d=some none from Qe λx=>by rw [h,g] at x;exact absurd x.2 nb)<|af (Qh<|.inl rfl) rfl
 |false=>
  refine af (show iQ d=mN d 100 (cW d 6) 40 0 false from Qh ⟨b,by rw [h,g];rfl⟩)<|af l ?_;haveI:=xZ i e f hs base false 100 rfl C (aU<|Qf k<|Qd 2)<|Qa (Qk c) b;rw [c] at this;exact this
theorem ya:∀(hs:List Hd) (a:Nat),40<a->vm a hs=hs.any λh=>decide (h.1=0)
 |[],_,_=>rfl
 |h::r,a,b=>by
  show((decide (h.1=0)&&decide (40<a))||vm (a+(h.2.length+1)) r)=(decide (h.1=0)||r.any _);exact af (dh b ..)<|af (Bool.and_true ..)<|af (ya r _ (mT<|Qf (Nat.succ_le_of_lt b)<|Qf (QO h.snd.length)<|Qd 1) ..) rfl
theorem abO:∀hs:List Hd,vm 40 hs=hs.tail.any λh=>decide (h.1=0)
 |[]=>rfl
 |h::r=>by
  show((decide (h.1=0)&&decide (40<40))||vm (40+(h.2.length+1)) r)=r.any _;exact af (show decide (40<40)=false from rfl ..)<|af (Bool.and_false ..)<|af (Bool.false_or ..)<|af (ya r _ (mT<|Qf (Qd 40)<|Qf (QO h.snd.length)<|Qd 1) ..) rfl
def nI(c:CF):Prop:=∀H k (kd:Nat),fq H k->k<=4000->sK kd->∃b o G,c 47 [.B 1,.A kd] H=.ok (.B<|H.length+G.length) (H.set 1 o++(G++[.A<|ay b]))/\alD (kd,b)/\b.length<=40/\fq (H.set 1 o) (k+1)
theorem ke{x:Nat}(h:x<256):V.A x::ay b=ay (UInt8.ofNat x::b):=by
 show _=V.A (UInt8.ofNat x).toNat::ay b;exact af (Zi h) rfl
theorem agD(N:dI c):nI (λx=>aM c x):=by
 intro H k kd P hk r;refine cM (N H k P<|Qa ‹_› lb) λx o W J=>?_;have v:(H.set 1 o).length=H.length:=Qo ..;have s1:aN c (.A (.A 2)<|.G (.F 41) [.A 0]) (λj=>[V.B 1,.A kd][j]?) H=.ok (.Aa,Lc.Aa (λj=>[V.B 1,.A kd][j]?) 2<|.A x) (H.set 1 o):=az<|av (ae (aa rfl) aj) W;have s:∀{l:Lc} {m j:Nat},l 2=some (.A x)->0<m->x%(m:Int)=(j:Int)->∀{H':Hp},ak c (.E .Mod (.A 2)<|.B m) l H'=.ok (.A j) H':=λh K q=>aq (aa h) rfl<|(bL<|Zf.mpr ‹_›).trans (by exact af q rfl)
 by_cases a:kd=44
 ·subst a;refine aT (dj x (m:=5) lb) λM A Y=>aT (dj x (m:=7) lb) λQ B Z=>?_;refine aT (show ∃w:Nat,[V.A 0,.A 1,.A 8,.A 65529,.A 6][M]?=some (.A w)/\w<65536 from adD (l:=[0,1,8,65529,6]) (by decide) A) λy C D=>?_
  refine vh ([UInt8.ofNat Q,UInt8.ofNat<|y/ 256,UInt8.ofNat<|y%256,1,2,3,4]) o ([]) ?_ ⟨.inr<|.inr<|.inr<|.inr rfl,rfl,by show 7<=24;decide⟩ (by show 7<=40;decide) J;apply aE (fd:=fZ) (vs:=[.B 1,.A 44]) rfl rfl;refine ah s1<|bb<|aK (am (aa rfl) rfl<|dC rfl)<|ah (az<|aJ (x:=.F [.A 0,.A 1,.A 8,.A 65529,.A 6]) (y:=.A M) rfl (s rfl lb Y)<|gV C<|by show 5<=_;decide)<|aI<|(cV<|ae (s rfl lb Z)<|ae (aq (aa rfl) rfl<|eY (q:=256) ⟨dd,lb⟩)<|ae (aq (aa rfl) rfl<|bL (q:=256) dd)<|ae rfl<|ae rfl<|ae rfl<|ae rfl aj).trans ?_;refine af v ?_;show bJ.ok (V.B H.length) (H.set 1 o++[.A<|V.A Q::V.A (y/ 256:Nat)::V.A (y%256:Nat)::ay [1,2,3,4]])=_;exact af (ke<|by exact Nat.mod_lt _<|ZD _)<|af (ke<|by exact(Nat.div_lt_iff_lt_mul<|ZD _).mpr D)<|af (ke<|by exact eJ<|Zq B) rfl
 ·obtain⟨b,K,E⟩:∃b:Nat,ak c (.O (.I .Eq (.A 1)<|.B 51) (.E .Mod (.A 2)<|.B 3)<|.E .Mod (.A 2)<|.B 2) (Lc.Aa (λj=>[V.B 1,.A kd][j]?) 2<|.A x) (H.set 1 o)=.ok (.A b) (H.set 1 o)/\b<(if kd=51 then 3 else 2):=by
   by_cases z:kd=51
   ·exact aT (dj x (m:=3) lb) λj t q=>bv j (cf (am (aa rfl) rfl<|eq_t (n:=51) z)<|s rfl lb q) (by refine af (Qh z) ?_;exact t)
   ·exact aT (dj x (m:=2) lb) λj t q=>bv j (ci (am (aa rfl) rfl<|eq_f (n:=51) z)<|s rfl lb q) (by refine af (Qe z) ?_;exact t)
  refine aT (dj x (m:=256) lb) λj t q=>?_;have n:b<3:=by split at E<;>lia
  generalize p:(if kd=51 then 4 else 8:Nat)=u;have F:u=4∨u=8:=by refine cI p ?_;split<;>simp
  have d:(UInt8.ofNat b::List.replicate (6+b*u) (UInt8.ofNat j)).length=7+b*u:=by(refine af QG<|af List.length_replicate ?_);exact ZF _ _ _
  have f:b*u<=16:=by rcases F with rfl|rfl<;>lia
  refine vh (UInt8.ofNat b::List.replicate (6+b*u) (UInt8.ofNat j)) o ([.A [.A b],.A [.A j],.A<|List.replicate (6+b*u)<|.A j]) ?_ ⟨r,?_,by exact af d<|aU<|Qf (Qd 7) f⟩ (by exact af d<|aU<|Qf (Qd 7) f) J
  ·generalize g:Lc.Aa (Lc.Aa (λj=>[V.B 1,.A kd][j]?) 2<|.A x) 4 (.A b)=e;haveI R:e 1=some (.A kd):=g ▸rfl;haveI r2:e 2=some (.A x):=g ▸rfl;haveI U:e 4=some (.A b):=g ▸rfl;haveI s3:aN c (.A (.A 4)<|.O (.I .Eq (.A 1)<|.B 51) (.E .Mod (.A 2)<|.B 3)<|.E .Mod (.A 2)<|.B 2) (Lc.Aa (λj=>[V.B 1,.A kd][j]?) 2<|.A x) (H.set 1 o)=.ok (.Aa,e) (H.set 1 o):=by exact cI g<|az K
   haveI eu:∀{H':Hp},ak c (.O (.I .Eq (.A 1)<|.B 51) (.B 4)<|.B 8) e H'=.ok (.A u) H':=λ{H'}=>by
    refine cI p ?_
    by_cases z:kd=51
    ·exact af (Qh z)<|cf (am (aa R) rfl<|eq_t (n:=51) z) rfl
    ·exact af (Qe z)<|ci (am (aa R) rfl<|eq_f (n:=51) z) rfl
   have en:∀{H':Hp},ak c (.E .Add (.B 6)<|.E .Mult (.A 4)<|.O (.I .Eq (.A 1)<|.B 51) (.B 4)<|.B 8) e H'=.ok (.A (6+b*u:Nat)) H':=aq rfl (aq (aa U) eu<|eX<|.of_left<|pU<|Nat.lt_trans n lb) rfl;have l1:ak c (.M [.A 4]) e (H.set 1 o)=.ok (.B<|H.length+0) (H.set 1 o++[.A [.A b]]):=by
    haveI:=cV (c:=c)<|ae (aa (c:=c) (H:=H.set 1 o) U) aj;rw [v] at this;exact this
   have G:∀{L:List O} {ob:O},jp ob (H.set 1 o++L)=.ok (.B<|H.length+L.length) (H.set 1 o++(L++[ob])):=λ{L ob}=>by
    haveI:=pM (H:=H.set 1 o) (L:=L) (o:=ob) rfl rfl;rw [v] at this;exact this
   have I:∀{L:List O} {i:Nat},(H.set 1 o++L)[H.length+i]?=L[i]?:=λ{L i}=>by
    haveI:=bn (H:=H.set 1 o) (L:=L) (k:=i);rw [v] at this;exact this
   haveI l2:ak c (.M [.E .Mod (.A 2)<|.B 256]) e (H.set 1 o++[.A [.A b]])=.ok (.B<|H.length+1) (H.set 1 o++[.A [.A b],.A [.A j]]):=by
    haveI ex:bK c [.E .Mod (.A 2)<|.B 256] e (H.set 1 o++[.A [.A b]])=.ok [.A j] (H.set 1 o++[.A [.A b]]):=ae (s (m:=256) r2 lb q) aj;show(bK c [.E .Mod (.A 2)<|.B 256] e _).Aa _=_;exact af ex G
   haveI l3:mq .Mult (.B<|H.length+1) (.A (6+b*u:Nat)) (H.set 1 o++[.A [.A b],.A [.A j]])=.ok (.B<|H.length+2) (H.set 1 o++[.A [.A b],.A [.A j],.A<|List.replicate (6+b*u)<|.A j]):=by
    show(bX (H.length+1) _).Aa _=_;refine af (bO<|I (L:=[.A [.A b],.A [.A j]]) (i:=1)) ?_;show(if 0<=((6+b*u:Nat):Int)/\((6+b*u:Nat):Int)<1000 then jp (.A<|List.replicate ((6+b*u:Nat):Int).toNat<|V.A j) else AM.Ac) _=_;exact af (Qh ⟨Zh<|6+b*u,zA<|Qf (Qd 6) f⟩ ..)<|af (Int.toNat_natCast ..) G
   haveI l4:mq .Add (.B<|H.length+0) (.B<|H.length+2) (H.set 1 o++[.A [.A b],.A [.A j],.A<|List.replicate (6+b*u)<|.A j])=.ok (.B<|H.length+3) (H.set 1 o++[.A [.A b],.A [.A j],.A<|List.replicate (6+b*u)<|.A j,.A<|[.A b]++List.replicate (6+b*u) (.A j)]):=by
    show(bX (H.length+0) _).Aa _=_;refine af (bO<|I (L:=[.A [.A b],.A [.A j],.A<|List.replicate (6+b*u)<|.A j]) (i:=0)) ?_;show(bX (H.length+2) _).Aa _=_;refine af (bO<|I (L:=[.A [.A b],.A [.A j],.A<|List.replicate (6+b*u)<|.A j]) (i:=2)) ?_;show(if cx (1+(List.replicate (6+b*u)<|V.A j).length) then jp (.A<|[V.A b]++List.replicate (6+b*u) (.A j)) else AM.Ac) _=_;exact af (Qh<|by rw [List.length_replicate];show _<=_;exact aU<|Qf (Qd 1)<|Qf (Qd 6) f) G
   apply aE (fd:=fZ) (vs:=[.B 1,.A kd]) rfl rfl;refine ah s1<|ah (aH<|am (aa rfl) rfl<|eq_f (n:=44) a)<|ah s3<|aI<|(aq l1 (aq l2 en l3) l4).trans ?_;refine af (show [V.A b]++List.replicate (6+b*u) (V.A j)=ay (UInt8.ofNat b::List.replicate (6+b*u) (UInt8.ofNat j)) from by
    rw [←ke (eJ<|Qm n)];unfold ay;rw [List.map_replicate,Zi t];rfl) ?_
   rfl
  ·refine af d ?_;show _=vV kd (UInt8.ofNat b).toNat;refine af (Zi<|eJ<|Zq n) ?_;rcases r with rfl|rfl|rfl|rfl|rfl
   ·subst p;show 7+b*8+1=(b+1)*8;exact(ZF 7 (b*8) 1).trans<|(ZI 8<|b*8).trans (Nat.succ_mul b 8).symm
   ·subst p;show 7+b*8+1=(b+1)*8;exact(ZF 7 (b*8) 1).trans<|(ZI 8<|b*8).trans (Nat.succ_mul b 8).symm
   ·subst p;show 7+b*8+1=(b+1)*8;exact(ZF 7 (b*8) 1).trans<|(ZI 8<|b*8).trans (Nat.succ_mul b 8).symm
   ·subst p;show 7+b*4+1=(b+2)*4;exact(ZF 7 (b*4) 1).trans<|(ZI 8<|b*4).trans (Nat.add_mul b 2 4).symm
   ·exact absurd rfl a
section
section
variable {c:CF} {l:Lc} {H H1 H2:Hp} {a b:X} {v:V} {d:Bool} {r:bJ V}
theorem lI(h:ak c a l H=.ok (.E<|!d) H1):ak c (.P d [a,b]) l H=.ok (.E<|!d) H1:=by
 show(ak c a l H).Aa _=_;refine af h ?_;cases d<;>rfl
theorem mO(h:ak c a l H=.ok (.E d) H1)(e:ak c b l H1=r):ak c (.P d [a,b]) l H=r:=by
 haveI q:ak c (.P d [a,b]) l H=(ak c b l H1).Aa AM.Ab:=by
  show(ak c a l H).Aa _=_;refine af h ?_;cases d<;>rfl
 refine af q ?_;refine af e ?_;cases r<;>rfl
end
inductive ic(H:Hp)(n:Nat):List V->List Hd->Prop
 |Ab:ic H n [] []
 |Aa {i:Nat}{h:Hd}{vs:List V}{hs:List Hd}:n<i->H[i]?=some (.A<|ay h.2)->ic H n vs hs->ic H n (.F [.A h.1,.B i]::vs) (h::hs)
theorem ic.Ac(k:∀(i:Nat) o,n<i->H[i]?=some o->H'[i]?=some o)(r:ic H n vs hs):ic H' n vs hs:=by
 induction r with
 |Ab=>exact .Ab
 |Aa a b _ r=>exact .Aa a (k _ _ a b) r
theorem ic.Ae(f:n<i)(e:H[i]?=some (.A<|ay h.2))(r:ic H n vs hs):ic H n (vs++[.F [.A h.1,.B i]]) (hs++[h]):=by
 induction r with
 |Ab=>exact .Aa f e .Ab
 |Aa a b _ r=>exact .Aa a b r
theorem ic.Ad(r:ic H n vs hs):vs.length=hs.length:=by
 induction r with
 |Ab=>rfl
 |Aa _ _ _ r=>exact Qt (·+1) r
theorem ic.at(r:ic H n vs hs):∀{j:Nat} {h:Hd},hs[j]?=some h->∃i:Nat,vs[j]?=some (.F [.A h.1,.B i])/\H[i]?=some (.A<|ay h.2):=by
 induction r with
 |Ab=>intro j h e;exact ar e
 |Aa a b _ r=>
  intro j h e
  cases j with
  |zero=>haveI f:=Qb e;subst f;exact bv _ rfl b
  |succ j=>exact r e
noncomputable def pyO(b:List UInt8):PyData:=.list<|b.map λx=>.int x.toNat
def pyH(h:Hd):PyData:=.tuple [.int h.1,pyO h.2]
theorem pq(b:List UInt8):cC (toPy (m+1) H) (ay b)=some (b.map λx=>PyData.int x.toNat):=by
 induction b with
 |nil=>rfl
 |cons x b r=>
  show(toPy (m+1) H<|.A x.toNat).bind (λy=>(cC (toPy (m+1) H)<|ay b).map (y::·))=_;exact af r rfl
theorem ic.py(r:ic H n vs hs):cC (toPy 7 H) vs=some (hs.map pyH):=by
 induction r with
 |Ab=>rfl
 | @Aa i h vs hs _ b _ r=>
  show(toPy 7 H<|.F [.A h.1,.B i]).bind (λy=>(cC (toPy 7 H) vs).map (y::·))=_;refine af r ?_;haveI:toPy 7 H (.F [.A h.1,.B i])=some (pyH h):=by
   show(((toPy 6 H<|.B i).bind λy=>some [y]).map (PyData.int h.1::·)).map PyData.tuple=_;haveI:toPy 6 H (.B i)=some (pyO h.2):=by
    show(Option.elim H[i]? none λe=>oC none e (list:=λl=>(cC (toPy 5 H) l).map PyData.list))=_;refine af b ?_;show(cC (toPy (4+1) H)<|ay h.2).map PyData.list=_;exact af (pq ..) rfl
   exact af this rfl
  exact af this rfl
theorem pt(b:List UInt8):PyData.canLayAll0 (b.map λx=>PyData.int x.toNat)=true:=by
 induction b with
 |nil=>simp [PyData.canLayAll0]
 |cons x b r=>simp [PyData.canLayAll0,PyData.canLay0,r]
theorem kJ(b:List UInt8):PyData.depthAll (b.map λx=>PyData.int x.toNat)=0:=by
 induction b with
 |nil=>simp [PyData.depthAll]
 |cons x b r=>simp [PyData.depthAll,PyData.depth,r]
theorem aaw(hs:List Hd):PyData.canLayAll0 (hs.map pyH)=true:=by
 induction hs with
 |nil=>simp [PyData.canLayAll0]
 |cons h hs r=>simp [PyData.canLayAll0,PyData.canLay0,pyH,pyO,pt,r]
theorem vc(hs:List Hd):PyData.depthAll (hs.map pyH)<=2:=by
 induction hs with
 |nil=>simp [PyData.depthAll]
 |cons h hs r=>simp [PyData.depthAll,PyData.depth,pyH,pyO,kJ,r]
theorem amt(g:H[i]?=some (.A xs))(h:H[j]?=some (.A ys))(m:cC (toPy 7 H) xs=some d)(p2:cC (toPy 7 H) ys=some e)(s1:SeqAt.shaped (.list d)=true)(n:SeqAt.shaped (.list e)=true)(o:PyData.eqv (.list d) (.list e)=k):eO .NotEq (.B i) (.B j) H=.ok (.E<|!k) H:=by
 haveI p:toPy 8 H (.B i)=some (.list d):=by
  show(Option.elim H[i]? none λf=>oC none f (list:=λl=>(cC (toPy 7 H) l).map PyData.list))=_;refine af g ?_;show(cC (toPy 7 H) xs).map PyData.list=_;exact af m rfl
 haveI s:toPy 8 H (.B j)=some (.list e):=by
  show(Option.elim H[j]? none λf=>oC none f (list:=λl=>(cC (toPy 7 H) l).map PyData.list))=_;refine af h ?_;show(cC (toPy 7 H) ys).map PyData.list=_;exact af p2 rfl
 haveI q:eqV H (.B i) (.B j)=some k:=by
  show(Option.elim (fN H<|.B i) (eqP H (.B i)<|.B j) λl=>Option.elim (fN H<|.B j) (eqP H (.B i)<|.B j) λr=>if l.length=r.length then rF H r l else some false)=_;refine af (show fN H (.B i)=none from by show(Option.elim H[i]? none λf=>oC none f (dict:=λl _=>some l))=_;rw [g];rfl) ?_;show eqP H (.B i) (.B j)=_;unfold eqP;refine af p<|af s ?_;show(if(SeqAt.shaped (.list d)&&SeqAt.shaped (.list e))=true then some (PyData.eqv (.list d)<|.list e) else none)=_;exact af s1<|af n<|af o rfl
 show zB ((eqV H (.B i)<|.B j).map (!·)) H=_;exact af q rfl
theorem aff(f:H[i]?=some (.A vs))(R:ic H n vs hs)(g:H[j]?=some (.A [])):eO .NotEq (.B i) (.B j) H=.ok (.E<|!hs.isEmpty) H:=by
 haveI e:∀hs:List Hd,SeqAt.shaped (.list<|hs.map pyH)=true:=λhs=>by
  haveI:=vc hs;simp [SeqAt.shaped,PyData.canLay0,PyData.depth,aaw hs];exact Qa ‹_› lb
 refine amt f g R.py (rfl:cC (toPy 7 H) []=some []) (e hs) (e []) ?_
 cases hs with
 |nil=>simp [PyData.eqv,PyData.eqvAll]
 |cons h r=>simp [PyData.eqv,PyData.eqvAll]
end
section
noncomputable def Hx(H:Hp)(o:O)(vs:List V)(G:List O):Hp:=H.set 1 o++(.A vs::G)
section
variable {H:Hp} {o o':O} {vs ws:List V} {G E:List O}
theorem Hx.Ad:(Hx H o vs G)[H.length]?=some (.A vs):=by
 haveI:=bn (H:=H.set 1 o) (L:=.A vs::G) (k:=0);rw [Qo,Nat.add_zero] at this;exact this
theorem Hx.Ai:(Hx H o vs G).set H.length (.A ws)=Hx H o ws G:=by
 haveI:=fO (H:=H.set 1 o) (L:=.A vs::G) (k:=0) (o:=.A ws);rw [Qo,Nat.add_zero] at this;exact this
theorem Hx.Ab:Hx H o vs G++E=Hx H o vs (G++E):=by unfold Hx;exact af (Qn ..) rfl
theorem Hx.Af(h:1<H.length):(Hx H o vs G).set 1 o'=Hx H o' vs G:=by
 unfold Hx;exact af (List.set_append_left _ _ (by rw [Qo];exact h) ..)<|af (Ze ..) rfl
theorem Hx.Ac:(Hx H o vs G).length=H.length+1+G.length:=by unfold Hx;refine af Qi<|af Qo<|af QG ?_;lia
theorem Hx.Aa:∀(i:Nat) ob,H.length<i->(Hx H o vs G)[i]?=some ob->(Hx H o' ws<|G++E)[i]?=some ob:=λi ob c e=>by
 refine bC (Nat.le.dest c) λk d=>?_;subst d;haveI a:=bn (H:=H.set 1 o) (L:=.A vs::G) (k:=k+1);haveI b:=bn (H:=H.set 1 o') (L:=.A ws::(G++E)) (k:=k+1);rw [Qo] at a b;rw [show H.length.succ+k=H.length+(k+1) from by lia] at e ⊢;haveI e:=a.symm.trans e;refine b.trans ?_;show(G++E)[k]?=_;haveI e:G[k]?=some ob:=e;refine af (Qj (Qg.mp e).1) ?_;exact af e rfl
theorem Hx.Ag(h:1<H.length)(P:fq (Hx H o vs G) k):fq (H.set 1 o) k:=P.Ad (by exact af Qo h)
end
noncomputable def pu(hs:List Hd):Bool:=hs.any λh=>decide (h.1=0)
structure I6(H:Hp)(p:Nat)(old:Bool)(k t:Nat)(l:Lc)(H':Hp)(o:O)(vs:List V)(G:List O)(hs:List Hd):Prop where
 hp:H'=Hx H o vs G
 Ac:ic H' H.length vs hs
 Ad:hs.length<=t
 ch:lF (0,false) hs
 Ae:fq (H.set 1 o) (k+2*t)
 l0:l 0=some (.B 1)
 l1:l 1=some (.A p)
 l2:l 2=some (.B H.length)
 l3:l 3=some (.A (sJ (0,false) hs).1)
 l4:l 4=some (.E (sJ (0,false) hs).2)
 l5:l 5=some (.E old)
 l6:l 6=some (.E<|old||pu hs.tail)
theorem lF.Ac(H:alD h)(c:lF q hs):(sJ q hs).1=0->lF q (hs++[h]):=by
 induction c with
 |Ab=>intro e;exact .Aa e H .Ab
 |Aa a b _ r=>intro e;exact .Aa a b<|r e
theorem yb:sJ q (hs++[h])=stp (sJ q hs) h:=by unfold sJ;exact af ZK rfl
theorem aax:(b||pu (hs++[h]).tail)=((b||pu hs.tail)||(decide (h.1=0)&&!hs.isEmpty)):=by
 cases hs with
 |nil=>cases b<;>simp [pu]
 |cons a r=>
  show(b||pu (r++[h]))=_;unfold pu;refine af List.any_append ?_;simp [Bool.or_assoc]
noncomputable abbrev qS:List S:=[.A (.A 8)<|.H (.D [.B 0,.B 43,.B 60,.B 51,.B 44,.B 44])<|.E .Mod (.G (.F 41) [.A 0])<|.B 6,.A (.A 9)<|.G (.F 47) [.A 0,.A 8],.C (.I .Eq (.A 8)<|.B 44) [.G [3,4]<|.D [.E .Mult (.E .FloorDiv (.E .Add (.E .Mult (.H (.A 9)<|.B 1)<|.B 256)<|.H (.A 9)<|.B 2)<|.B 8)<|.B 8,.I .Eq (.E .Mod (.H (.A 9)<|.B 2)<|.B 2)<|.B 1]] [],.A (.A 6)<|.P false [.A 6,.P true [.I .Eq (.A 8)<|.B 0,.I .NotEq (.A 2)<|.M []]],.D<|.R (.A 2) "append" [.D [.A 8,.A 9]]]
theorem amu(N:dI c)(D:nI c)(K:1<H.length)(hk:k<=3000)(W:t<=10)(I:I6 H p m k t l H' o vs G hs)(z:(sJ (0,false) hs).1=0):
 ∃l' A o' Y G' h,au c qS l H'=.ok (.Aa,l') A/\I6 H p m k (t+1) l' A o' Y G' (hs++[h]):=by
 obtain⟨rfl,R,u,C,P,Z,l1,l2,l3,l4,l5,l6⟩:=I;refine cM (N (Hx H o vs G) (k+2*t) P.Aa<|aU<|Qf hk<|QJ (Qd 2) W) λx L e1 P1=>?_;rw [Hx.Af K] at e1 P1;refine aT (dj x (m:=6) lb) λj hj qj=>?_;refine aT (show ∃w:Nat,[V.A 0,.A 43,.A 60,.A 51,.A 44,.A 44][j]?=some (.A w)/\sK w from adD (l:=[0,43,60,51,44,44]) (show ∀w∈[0,43,60,51,44,44],w=0∨w=43∨w=60∨w=51∨w=44 from by decide) hj) λkd a0 h5=>?_
 refine ahg (D (Hx H L vs G) (k+2*t+1) kd P1 (aU<|Qf (Qf hk<|QJ (Qd 2) W)<|Qd 1) h5) λb a v M HD hb Q=>?_;rw [Hx.Af K,Hx.Ab] at M;rw [Hx.Af K] at Q;haveI Q:=Hx.Ag K Q;generalize hr:(Hx H L vs G).length+v.length=r at M;haveI B:H.length<r:=by(refine cI hr ?_;refine af Hx.Ac ?_);lia
 generalize hG:G++(v++[O.A<|ay b])=d at M;have gr:(Hx H a vs d)[r]?=some (.A<|ay b):=by
  haveI a1:=bn (H:=H.set 1 a) (L:=.A vs::d) (k:=1+G.length+v.length);rw [Qo] at a1;refine af (show r=H.length+(1+G.length+v.length) from by rw [←hr,Hx.Ac];lia) ?_;refine a1.trans ?_;rw [←hG,←Qn,show O.A vs::((G++v)++[O.A<|ay b])=(O.A vs::(G++v))++[O.A<|ay b] from rfl,show 1+G.length+v.length=(O.A vs::(G++v)).length from by(refine af QG ?_;refine af Qi ?_);lia,QE<|Qd _,Nat.sub_self];rfl
 have R2:ic (Hx H a vs d) H.length vs hs:=R.Ac λi ob y e=>by refine cI hG ?_;exact Hx.Aa i ob y e
 haveI s1:aN c (.A (.A 8)<|.H (.D [.B 0,.B 43,.B 60,.B 51,.B 44,.B 44])<|.E .Mod (.G (.F 41) [.A 0])<|.B 6) l (Hx H o vs G)=.ok (.Aa,l.Aa 8<|.A kd) (Hx H L vs G):=
  az (aJ (x:=.F [.A 0,.A 43,.A 60,.A 51,.A 44,.A 44]) (y:=.A j) rfl (aq (av (ae (aa Z) aj) e1) rfl<|(bL (q:=6) dd).trans<|by exact af (show x%6=(j:Int) from qj) rfl)<|gV a0<|by show 6<=_;decide)
 haveI s2:aN c (.A (.A 9)<|.G (.F 47) [.A 0,.A 8]) (l.Aa 8<|.A kd) (Hx H L vs G)=.ok (.Aa,(l.Aa 8<|.A kd).Aa 9<|.B r) (Hx H a vs d):=
  az (av (ae (aa (show(l.Aa 8 _) 0=_ from Z))<|ae (aa rfl) aj) M)
 generalize f:(l.Aa 8<|.A kd).Aa 9 (.B r)=g at s2;haveI q0:g 0=some (.B 1):=f ▸Z;haveI q1:g 1=some (.A p):=f ▸l1;haveI q2:g 2=some (.B H.length):=f ▸l2;haveI q3:g 3=some (.A (sJ (0,false) hs).1):=f ▸l3;haveI q4:g 4=some (.E (sJ (0,false) hs).2):=f ▸l4;haveI q5:g 5=some (.E m):=f ▸l5;haveI q6:g 6=some (.E<|m||pu hs.tail):=f ▸l6;have U:g 8=some (.A kd):=f ▸rfl;haveI q9:g 9=some (.B r):=f ▸rfl;clear f l1 l2 l3 l4 l5 l6;obtain⟨n,sa,a3,a4,s⟩:∃n,aN c (.C (.I .Eq (.A 8)<|.B 44) [.G [3,4]<|.D [.E .Mult (.E .FloorDiv (.E .Add (.E .Mult (.H (.A 9)<|.B 1)<|.B 256)<|.H (.A 9)<|.B 2)<|.B 8)<|.B 8,.I .Eq (.E .Mod (.H (.A 9)<|.B 2)<|.B 2)<|.B 1]] []) g (Hx H a vs d)=.ok (.Aa,n) (Hx H a vs d)/\n 3=some (.A (stp (sJ (0,false) hs) (kd,b)).1)/\n 4=some (.E (stp (sJ (0,false) hs) (kd,b)).2)/\∀j,j≠3->j≠4->n j=g j:=by
  by_cases e:kd=44
  ·refine af (show stp (sJ (0,false) hs) (kd,b)=(abN b,sI b) from Qh e) ?_;haveI b7:b.length=7:=by haveI:=HD.Aa;rw [e] at this;haveI h:b.length+1=8:=this;exact aoe h
   haveI it:∀i:Nat,i<7->ak c (.H (.A 9)<|.B i) g (Hx H a vs d)=.ok (.A<|cW b i) (Hx H a vs d):=λi y=>aJ (aa q9) rfl<|dw gr (sy<|Qr y<|Qk<|QR b7) (by refine af aR ?_;exact Qa ‹_› lb);refine pZ ((g.Aa 4<|.E<|sI b).Aa 3<|.A<|abN b) (aK (am (aa U) rfl<|eq_t (n:=44) e)<|ah (l':=(g.Aa 4<|.E<|sI b).Aa 3<|.A<|abN b) (H1:=Hx H a vs d) ?_ aV) rfl rfl<|λj h3 h4=>?_
   ·haveI ev:ak c (.D [.E .Mult (.E .FloorDiv (.E .Add (.E .Mult (.H (.A 9)<|.B 1)<|.B 256)<|.H (.A 9)<|.B 2)<|.B 8)<|.B 8,.I .Eq (.E .Mod (.H (.A 9)<|.B 2)<|.B 2)<|.B 1]) g (Hx H a vs d)=.ok (.F [.A<|abN b,.E<|sI b]) (Hx H a vs d):=by
     refine bf<|ae (aq (aq (aq (aq (it 1 lb) rfl<|eX (q:=256)<|.of_right lb) (it 2 lb) rfl) rfl<|eY (q:=8) ⟨dd,lb⟩) rfl<|eX (q:=8)<|.of_right lb)<|ae (ia (aq (it 2 lb) rfl<|bL (q:=2) dd) rfl<|(dC rfl).trans ?_) aj;congr 2;exact decide_eq_decide.mpr ⟨λq=>ZJ q,λq=>Qt Int.ofNat q⟩
    show(ak c (.D [.E .Mult (.E .FloorDiv (.E .Add (.E .Mult (.H (.A 9)<|.B 1)<|.B 256)<|.H (.A 9)<|.B 2)<|.B 8)<|.B 8,.I .Eq (.E .Mod (.H (.A 9)<|.B 2)<|.B 2)<|.B 1]) g<|Hx H a vs d).Aa _=_;refine af ev ?_;rfl
   ·show(if j=3 then _ else if j=4 then _ else g j)=_;refine af (Qe h3) ?_;exact af (Qe h4) rfl
  ·refine af (show stp (sJ (0,false) hs) (kd,b)=sJ (0,false) hs from Qe e) ?_;exact pZ g (aH<|am (aa U) rfl<|eq_f (n:=44) e) q3 q4<|λ_ _ _=>rfl
 obtain⟨E,sb⟩:∃E,aN c (.A (.A 6)<|.P false [.A 6,.P true [.I .Eq (.A 8)<|.B 0,.I .NotEq (.A 2)<|.M []]]) n (Hx H a vs d)=.ok (.Aa,n.Aa 6<|.E<|(m||pu hs.tail)||(decide (kd=0)&&!hs.isEmpty)) (Hx H a vs<|d++E):=by
  have F:n 6=some (.E<|m||pu hs.tail):=(s 6 nb nb).trans q6;have r8:n 8=some (.A kd):=(s 8 nb nb).trans U;have r2:n 2=some (.B H.length):=(s 2 nb nb).trans q2
  cases ho:(m||pu hs.tail) with
  |true=>rw [ho] at F;exact⟨[],by refine af (QF ..) ?_;exact az<|lI (d:=false)<|aa F⟩
  |false=>
   rw [ho] at F
   by_cases e:kd=0
   ·refine⟨[.A []],?_⟩;refine af (dh e) ?_;haveI en:ak c (.M []) n (Hx H a vs d)=.ok (.B (Hx H a vs d).length) (Hx H a vs<|d++[.A []]):=(cV aj).trans (by exact af Hx.Ab rfl);haveI gn:(Hx H a vs<|d++[.A []])[(Hx H a vs d).length]?=some (.A []):=by refine cI Hx.Ab ?_;exact bn (k:=0)
    refine az<|mO (aa F)<|mO (ia (aa r8) rfl<|eq_t (n:=0) e)<|ia (aa r2) en<|aff (hs:=hs) Hx.Ad (R2.Ac λi ob y e=>Hx.Aa i ob y e) gn
   ·refine⟨[],?_⟩;refine af (QF ..) ?_;refine af (cy e ..) ?_;exact az<|mO (aa F)<|lI (d:=true)<|ia (aa r8) rfl<|eq_f (n:=0) e
 have J:(n.Aa 6<|.E<|(m||pu hs.tail)||(decide (kd=0)&&!hs.isEmpty)) 2=some (.B H.length):=(s 2 nb nb).trans q2;haveI vl:vs.length<16777216:=by refine af R.Ad ?_;exact eJ<|Qa u W
 haveI sc:=jm (c:=c)<|nB (aa J) (mG<|Hx.Ad (H:=H) (o:=a) (vs:=vs) (G:=d++E)) (ae (bf<|ae (aa (c:=c) (H:=Hx H a vs<|d++E) (show(n.Aa 6 _) 8=some (.A kd) from(s 8 nb nb).trans U))<|ae (aa (show(n.Aa 6 _) 9=some (.B r) from(s 9 nb nb).trans q9)) aj) aj)<|mF Hx.Ad vl;rw [Hx.Ai] at sc;haveI R3:ic (Hx H a (vs++[.F [.A kd,.B r]])<|d++E) H.length (vs++[.F [.A kd,.B r]]) (hs++[(kd,b)]):=ic.Ae (h:=(kd,b)) B (Hx.Aa r _ B gr)<|R2.Ac λi ob y e=>Hx.Aa i ob y e;refine⟨_,_,a,vs++[.F [.A kd,.B r]],d++E,(kd,b),ah s1<|ah s2<|ah sa<|ah sb<|ah sc aV,⟨rfl,R3,by refine af Qi ?_;exact QQ u,C.Ac HD z,Q.Ab<|Qd _,(s 0 nb nb).trans q0,(s 1 nb nb).trans q1,J,?_,?_,(s 5 nb nb).trans q5,?_⟩⟩
 ·refine af yb ?_;exact a3
 ·refine af yb ?_;exact a4
 ·refine af aax ?_;rfl
end
section
section
variable {H:Hp} {o ob ob':O} {vs xs ys:List V} {G:List O} {i j a b:Nat} {x y:V}
theorem Hx.Ae:(Hx H o vs<|G++[ob])[(Hx H o vs G).length]?=some ob:=by exact cI Hx.Ab<|bn (k:=0)
theorem jD(c:H[i]?=some (.A xs))(d:H[j]?=some (.A ys))(e:xs.length+ys.length<=10000):mq .Add (.B i) (.B j) H=.ok (.B H.length) (H++[.A<|xs++ys]):=by
 show(bX i H).Aa _=_;refine af (bO c) ?_;show(bX j H).Aa _=_;exact af (bO d)<|congrFun (Qh (c:=cx<|xs.length+ys.length)<|Qa e lb) H
theorem gp(h:H[i]?=some (.A xs))(c:wd x 0=some a)(d:wd y xs.length=some b)(e:xs.length<=10000):kj (.B i) x y H=.ok (.B H.length) (H++[.A<|Mine.bM a b xs]):=by
 show(bX i H).Aa _=_;refine af (bO h)<|af c ?_;show cs (wd y xs.length) _ H=_;exact af d<|bT (p:=cx xs.length)<|Qa e lb
theorem jE:Mine.bM a b (ay l)=ay (Mine.bM a b l):=by unfold Mine.bM ay;exact af List.map_drop<|af List.map_take rfl
theorem kK:ay l++ay m=ay (l++m):=by unfold ay;exact af ZL rfl
end
noncomputable abbrev jV:List S:=[.A (.A 10)<|.E .Add (.E .Add (.A 10)<|.M [.O (.I .Lt (.E .Add (.A 7)<|.B 1)<|.K "len" [.A 2]) (.H (.H (.A 2)<|.E .Add (.A 7)<|.B 1)<|.B 0)<|.A 1])<|.H (.H (.A 2)<|.A 7)<|.B 1]
structure A6(H:Hp)(o:O)(vs:List V)(hs:List Hd)(p:Nat)(base:List UInt8)(t:Nat)(l:Lc)(H':Hp):Prop where
 ex:∃G r dn,H'=Hx H o vs G/\ic H' H.length vs hs/\l 10=some (.B r)/\H'[r]?=some (.A<|ay<|base++dn)/\H.length<r/\dn++me p (hs.drop t)=me p hs
theorem adI{hs:List Hd}(e:hs[t]?=some h):me p (hs.drop t)=UInt8.ofNat (nk p<|hs.drop<|t+1)::(h.2++me p (hs.drop<|t+1)):=by
 haveI c:=Qg.mp e;exact af (List.drop_eq_getElem_cons c.1)<|af c.2 rfl
theorem adJ{H:Hp}(P:p<256)(n:∀h∈hs,sK h.1)(hb:base.length+(me p hs).length<=1000)(C:hs.length<=100)(Q:l 1=some (.A p))(u:l 2=some (.B H.length))(U:t<hs.length)(A:A6 H o vs hs p base t l H'):
 ∃l' g,au c jV (l.Aa 7<|.A t) H'=.ok (.Aa,l') g/\A6 H o vs hs p base (t+1) l' g/\(∀j,j≠7->j≠10->l' j=l j)/\∀(i:Nat) ob,H.length<i->H'[i]?=some ob->g[i]?=some ob:=by
 refine ahh A.ex λG r f W R v Y w D=>?_;subst W;obtain⟨h,e⟩:∃h,hs[t]?=some h:=⟨_,Qw U⟩;refine aT (R.at e) λi E Z=>?_;haveI d:=R.Ad;have F:∀{H':Hp},ak c (.E .Add (.A 7)<|.B 1) (l.Aa 7<|.A t) H'=.ok (.A (t+1:Nat)) H':=aq (aa rfl) rfl rfl;have I:ak c (.O (.I .Lt (.E .Add (.A 7)<|.B 1)<|.K "len" [.A 2]) (.H (.H (.A 2)<|.E .Add (.A 7)<|.B 1)<|.B 0)<|.A 1) (l.Aa 7<|.A t) (Hx H o vs G)=.ok (.A<|nk p<|hs.drop<|t+1) (Hx H o vs G):=by
  have J:∀{b:Bool},eO .Lt (.A (t+1:Nat)) (.A vs.length) (Hx H o vs G)=.ok (.E b) (Hx H o vs G)->bj c (.I .Lt (.E .Add (.A 7)<|.B 1)<|.K "len" [.A 2]) (l.Aa 7<|.A t) (Hx H o vs G)=.ok b (Hx H o vs G):=λhc=>am F (bh (ae (aa (show(l.Aa 7 _) 2=_ from u)) aj)<|gk Hx.Ad<|by refine af d ?_;exact Qa ‹_› lb) hc
  by_cases z:t+1<hs.length
  ·obtain⟨h',K⟩:∃h,hs[t+1]?=some h:=⟨_,Qw z⟩;refine aT (R.at K) λi' w1 _=>?_;refine af (show nk p (hs.drop<|t+1)=h'.1 from by rw [List.drop_eq_getElem_cons z];exact Qt Prod.fst (Qg.mp K).2) ?_;exact cf (J<|abF<|by refine af d ?_;exact z)<|aJ (aJ (aa (show(l.Aa 7 _) 2=_ from u)) F<|dw Hx.Ad w1<|by rw [d];exact aU C) rfl<|bu (i:=0) rfl
  ·refine af (show nk p (hs.drop<|t+1)=p from by rw [List.drop_eq_nil_of_le<|QW z];rfl) ?_;exact ci (J<|vk<|by refine af d ?_;exact QW z)<|aa (show(l.Aa 7 _) 1=_ from Q)
 have L:nk p (hs.drop<|t+1)<256:=by
  by_cases z:t+1<hs.length
  ·refine af (List.drop_eq_getElem_cons z) ?_;exact xY<|n _<|List.getElem_mem z
  ·refine af (List.drop_eq_nil_of_le<|QW z) ?_;exact P
 have st:=adI (p:=p) e;generalize nk p (hs.drop<|t+1)=q at I L st;have M:f.length+(1+h.2.length)<=(me p hs).length:=by(refine cI D ?_;refine af st ?_);simp only [Qi,QG];lia
 have x1:ak c (.M [.O (.I .Lt (.E .Add (.A 7)<|.B 1)<|.K "len" [.A 2]) (.H (.H (.A 2)<|.E .Add (.A 7)<|.B 1)<|.B 0)<|.A 1]) (l.Aa 7<|.A t) (Hx H o vs G)=.ok (.B (Hx H o vs G).length) (Hx H o vs<|G++[.A [.A q]]):=(cV<|ae I aj).trans (by exact af Hx.Ab rfl);haveI x2:mq .Add (.B r) (.B (Hx H o vs G).length) (Hx H o vs<|G++[.A [.A q]])=.ok (.B (Hx H o vs<|G++[.A [.A q]]).length) (Hx H o vs<|G++[.A [.A q]]++[.A<|ay (base++f)++[.A q]]):=(jD (Hx.Aa r _ w Y) Hx.Ae<|by(refine af aR ?_;refine af Qi ?_;refine af List.length_singleton ?_);lia).trans (by exact af Hx.Ab rfl);haveI x3:mq .Add (.B (Hx H o vs<|G++[.A [.A q]]).length) (.B i) (Hx H o vs<|G++[.A [.A q]]++[.A<|ay (base++f)++[.A q]])=.ok (.B (Hx H o vs<|G++[.A [.A q]]++[.A<|ay (base++f)++[.A q]]).length) (Hx H o vs<|G++[.A [.A q]]++[.A<|ay (base++f)++[.A q]]++[.A<|ay (base++f)++[.A q]++ay h.2]):=by
  haveI m:H.length<i:=by
   haveI:∀{vs:List V} {hs:List Hd} {t:Nat} {h:Hd} {i:Nat},ic (Hx H o vs G) H.length vs hs->True:=λ_=>trivial;haveI go:∀{H':Hp} {ws:List V} {N:List Hd} {t i:Nat} {k:Int},ic H' H.length ws N->ws[t]?=some (.F [.A k,.B i])->H.length<i:=by
    intro H' ws N t i k R
    induction R generalizing t with
    |Ab=>intro e;exact ar e
    |Aa a _ _ ih=>
     cases t with
     |zero=>intro e;injection e with z2;injection z2 with z3;injection z3 with z4 z5;injection z4 with z6;subst z6;injection z5 with z7 z8;injection z7 with z9;subst z9;exact a
     |succ t=>intro e;exact ih e
   exact go R E
  refine(jD Hx.Ae (ys:=ay h.2) (by refine af (Qn ..) ?_;exact Hx.Aa i _ m Z)<|by simp only [Qi,aR,List.length_singleton];lia).trans (by exact af Hx.Ab rfl)
 haveI s:au c jV (l.Aa 7<|.A t) (Hx H o vs G)=.ok (.Aa,(l.Aa 7<|.A t).Aa 10<|.B (Hx H o vs<|G++[.A [.A q]]++[.A<|ay (base++f)++[.A q]]).length) (Hx H o vs<|G++[.A [.A q]]++[.A<|ay (base++f)++[.A q]]++[.A<|ay (base++f)++[.A q]++ay h.2]):=
  ah (az<|aq (aq (aa (show(l.Aa 7 _) 10=_ from v)) x1 x2) (aJ (aJ (aa (show(l.Aa 7 _) 2=_ from u)) (aa rfl)<|dw Hx.Ad E<|by refine af d ?_;exact aU C) rfl<|bu (i:=1) rfl) x3) aV
 refine wc _ _ s ⟨_,_,f++(UInt8.ofNat q::h.2),rfl,R.Ac λi ob m e=>by rw [Qn,Qn];exact Hx.Aa i ob m e,rfl,?_,by refine af Hx.Ac ?_;exact Qq _ _,?_⟩ (λj h7 B=>?_) (λi ob m e=>by rw [Qn,Qn];exact Hx.Aa i ob m e)
 ·refine af (Hx.Ae ..) ?_;refine af (Qn ..) ?_;refine af (show [V.A q]++ay h.2=ay (UInt8.ofNat q::h.2) from ke L ..) ?_;refine af (kK ..) ?_;exact af (Qn ..) rfl
 ·refine cI (D ..) ?_;refine af (st ..) ?_;refine af (Qn ..) ?_;rfl
 ·show(if j=10 then _ else if j=7 then _ else l j)=_;refine af (Qe B) ?_;exact af (Qe h7) rfl
end
theorem Hx.Ak:(Hx H o vs<|A++X_::B).set (Hx H o vs A).length a=Hx H o vs (A++a::B):=by
 exact cI Hx.Ab<|cI Hx.Ab<|fO (k:=0)
theorem Hx.Aj:(Hx H o vs<|A++X_::B)[(Hx H o vs A).length]?=some X_:=by exact cI Hx.Ab<|bn (k:=0)
theorem abP{b:List UInt8}(a:i<b.length)(c:v<256):cW (b.set i<|UInt8.ofNat v) i=v:=by
 unfold cW;refine af (QX a) ?_;exact Zi c
theorem yc(h:i≠j):cW (b.set i u) j=cW b j:=by
 unfold cW;exact af (QA h) rfl
theorem I6.Aa(I:I6 H p a k t l H' o vs G hs):I6 H p a k t (l.Aa 7 v) H' o vs G hs:=⟨I.hp,I.Ac,I.Ad,I.ch,I.Ae,I.l0,I.l1,I.l2,I.l3,I.l4,I.l5,I.l6⟩
theorem I6.Ab(I:I6 H p a k t l H' o vs G hs):I6 H p a k (t+1) l H' o vs G hs:=⟨I.hp,I.Ac,Nat.le_succ_of_le I.Ad,I.ch,I.Ae.Ab<|QB (Zm 2<|Nat.le_succ t) k,I.l0,I.l1,I.l2,I.l3,I.l4,I.l5,I.l6⟩
theorem ajc(N:dI c)(D:nI c){p k m:Nat}(s:1<H.length)(u:k<=3000)(n:m<=3)(I:I6 H p d k 0 l H' o [] [] []):
 ∃l' a o' b f hs,jK c (.A 7) (dO<|.I m) (au c [.C (.I .Eq (.A 3)<|.B 0) qS []]) 1001 0 l H'=.ok (.Aa,l') a/\I6 H p d k m l' a o' b f hs:=by
 obtain⟨l',a,e,o',b,f,hs,q⟩:=gR (c:=c) (t:=.A 7) (src:=dO<|.I m) (step:=au c [.C (.I .Eq (.A 3)<|.B 0) qS []]) (n:=m)
  (λt g H'=>∃o vs G hs,I6 H p d k t g H' o vs G hs) (λj=>.A j)
  (λt g H1 r v=>kg v λo vs G hs I=>by
   refine⟨pn r<|aU n,g.Aa 7<|.A t,H1,?_⟩;have i:=I.Aa (v:=.A t)
   by_cases z:(sJ (0,false) hs).1=0
   ·exact alp (amu N D s u (aU<|Qa (Zq r) n) i z) λl' a o' b f h e q=>qe l' a rfl (ah (aK (am (aa i.l3) rfl<|eq_t (n:=0) z) e) aV)<|ahV o' b f (hs++[h]) q
   ·exact qe (g.Aa 7<|.A t) H1 rfl (ah (aH<|am (aa i.l3) rfl<|eq_f (n:=0) z) aV)<|ahV o vs G hs i.Ab)
  (λg H' _=>nG<|aU n) 1001 0 l H' (QO _) (Qv ‹_› lb) (ahV o ([]) ([]) ([]) I)
 exact⟨l',a,o',b,f,hs,e,q⟩
theorem agF(u:p<256)(f:∀h∈hs,sK h.1)(v:base.length+(me p hs).length<=1000)(g:hs.length<=100)(w:l 1=some (.A p))(x:l 2=some (.B H.length))(A:A6 H o vs hs p base 0 l H'):
 ∃l' a,jK c (.A 7) (dO<|.I hs.length) (au c jV) 1001 0 l H'=.ok (.Aa,l') a/\A6 H o vs hs p base hs.length l' a/\(∀j,j≠7->j≠10->l' j=l j)/\∀(i:Nat) ob,H.length<i->H'[i]?=some ob->a[i]?=some ob:=by
 obtain⟨l',a,e,k,q⟩:=gR (c:=c) (t:=.A 7) (src:=dO<|.I hs.length) (step:=au c jV) (n:=hs.length)
  (λt b H1=>A6 H o vs hs p base t b H1/\(∀j,j≠7->j≠10->b j=l j)/\∀(i:Nat) ob,H.length<i->H'[i]?=some ob->H1[i]?=some ob) (λj=>.A j)
  (λt b H1 n y=>gx y λA q z=>by
   exact zd (adJ (c:=c) u f v g ((q 1 nb nb).trans w) ((q 2 nb nb).trans x) n A) λl' a e k B m=>⟨pn n<|aU g,b.Aa 7<|.A t,H1,l',a,rfl,e,k,λj r d=>(B j r d).trans<|q j r d,λi ob s e=>m i ob s<|z i ob s e⟩)
  (λb H' _=>nG<|aU g) 1001 0 l H' (QO _) (Qv ‹_› lb) ⟨A,λ_ _ _=>rfl,λ_ _ _ e=>e⟩
 exact qe l' a e k q
theorem vd(c:lF q hs):∀h∈hs,sK h.1:=by
 induction c with
 |Ab=>intro h m;exact absurd m Zx
 |Aa _ b _ r=>
  intro g m;rcases Qz.mp m with rfl|m
  ·exact b.k
  ·exact r g m
theorem agG(c:lF q hs):(me p hs).length<=25*hs.length:=by
 induction c with
 |Ab=>exact Qd _
 | @Aa q h r _ a _ b=>
  show(UInt8.ofNat (nk p r)::(h.2++me p r)).length<=25*(r.length+1);exact af QG<|af Qi<|Qa (QQ<|Qf a.Ab b)<|Qk (by rw [ZI 24];rfl)
def yd(c:CF):Prop:=∀H k (p:Nat),fq H k->k<=2900->p<256->vV p 0=0->∃o G r b e pl a od,c 48 [.B 1,.A p] H=.ok (.F [.B r,.A (e:Nat),.A (pl:Nat),.E a,.E od]) (H.set 1 o++G)/\(H.set 1 o++G)[r]?=some (.A<|ay b)/\25<=b.length/\b.length<=170/\H.length<=r/\fq (H.set 1 o) (k+10)/\e<=200/\
 ∀d,d<+:b->iQ d=some (if od=true∨d.length<e then none else some (p,e,pl,a))
theorem ajd(N:dI c)(O_:mc c)(D:nI c):yd (λx=>aM c x):=by
 intro H k p P hk hp e0;have Q:=P.Ac;refine cM (N (H++[.A []]) k P.Aa<|Qa ‹_› lb) λx1 o1 e1 P1=>?_;rw [fA Q] at e1 P1;have P1:=P1.Ad (by exact af Qo Q);generalize b3:decide (x1%8=7)=g;generalize o:(Lc.Aa (Lc.Aa (Lc.Aa (Lc.Aa (λj=>[V.B 1,.A p][j]?) 2<|.B H.length) 3<|.A 0) 4<|.E false) 5<|.E g).Aa 6 (.E g)=l0;have e5:∀{rr:bJ (Fl×Lc)},au c (fw.Aa.drop 2) l0 (Hx H o1 [] [])=rr->au c fw.Aa (λj=>[V.B 1,.A p][j]?) H=rr:=λh=>by
  refine ah (cm (bf<|ae (cV aj)<|ae rfl<|ae rfl<|ae (ia (aq (av (ae (aa rfl) aj) e1) rfl<|bL (q:=8) dd) rfl<|dC b3) aj)<|nz rfl rfl)<|ah (az<|aa rfl) ?_;rw [←o] at h;exact h
 have U:I6 H p g (k+2) 0 l0 (Hx H o1 [] []) o1 [] [] []:=⟨rfl,.Ab,Qd _,.Ab,P1.Ab<|by exact Zs lb,o ▸rfl,o ▸rfl,o ▸rfl,o ▸rfl,o ▸rfl,o ▸rfl,by subst o;show some (V.E g)=some (V.E<|g||false);rw [Bool.or_false]⟩;refine cM (N (Hx H o1 [] []) (k+1) P1.Aa<|aU<|Qf hk<|Qd 1) λx2 o2 e2 P2=>?_;rw [Hx.Af Q] at e2 P2;refine aT (dj x2 (m:=4) lb) λm B qm=>?_;have I2:I6 H p g (k+2) 0 l0 (Hx H o2 [] []) o2 [] [] []:=⟨rfl,.Ab,Qd _,.Ab,(Hx.Ag Q P2).Ab<|Qq (k+1+1)<|2*0,U.l0,U.l1,U.l2,U.l3,U.l4,U.l5,U.l6⟩;refine alp (ajc (m:=m) N D Q (aU<|Qf hk<|Qd 2) (Qm B) I2) λl3 H3 o3 vs q hs e3 I=>?_;have er:ak c (.K "range" [.E .Mod (.G (.F 41) [.A 0])<|.B 4]) l0 (Hx H o1 [] [])=.ok (.I m) (Hx H o2 [] []):=bh (vs:=[.A m]) (ae (aq (av (ae (aa U.l0) aj) e2) rfl<|(bL (q:=4) dd).trans<|by rw [show x2%4=(m:Int) from qm]) aj)<|mM (n:=m)<|aU<|Qm B;obtain⟨rfl,R,n,C,P3,f0,l1,l2,f1,l4,l5,l6⟩:=I;have hA:(me p hs).length<=75:=Qa (agG (p:=p) C)<|Zm 25<|Qa n<|Qm B;refine dN (O_ (Hx H o3 vs q) (k+2+2*m) 64 P3.Aa (aU<|Qf (Zo hk 2)<|Zm 2<|Zq B)<|aU<|Qd 64) λb a e4 hb P4=>?_;rw [Hx.Af Q,Hx.Ab] at e4;rw [Hx.Af Q] at P4;have P4:=Hx.Ag Q P4;rw [show(Hx H o3 vs q).length=(Hx H a vs q).length from by rw [Hx.Ac,Hx.Ac]] at e4;have R4:∀{E},ic (Hx H a vs<|q++E) H.length vs hs:=R.Ac λi ob hi e=>Hx.Aa i ob hi e;have z:=R.Ad;generalize b7:(Hx H a vs q).length=r4 at e4;have j0:H.length<r4:=by rw [←b7,Hx.Ac];exact Qr (Nat.lt_succ_self _)<|Qq ..
 generalize b9:bM 40 64 b=s;generalize c0:bM 0 40 b=w;have y:w.length=40:=by rw [←c0];unfold bM;rw [QK,QL,hb];rfl
 have Y:s.length=24:=by rw [←b9];unfold bM;rw [QK,QL,hb];rfl
 have a4:∀{E},(Hx H a vs<|q++O.A (ay b)::E)[r4]?=some (.A<|ay b):=λ{E}=>by rw [←b7];exact Hx.Aj
 have c5:kj (.B r4) (.A 40) .C (Hx H a vs<|q++[.A<|ay b])=.ok (.B (Hx H a vs<|q++[.A<|ay b]).length) (Hx H a vs<|q++[.A<|ay b,.A<|ay s]):=(gp a4 (dW (i:=40) lb) (show wd .C _=some 64 from by show some (ay b).length=_;rw [aR,hb])<|by rw [aR,hb];decide).trans (by rw [jE,b9,Hx.Ab,Qn];rfl);have c6:kj (.B r4) .C (.A 40) (Hx H a vs<|q++[.A<|ay b,.A<|ay s])=.ok (.B (Hx H a vs<|q++[.A<|ay b,.A<|ay s]).length) (Hx H a vs<|(q++[.A<|ay b,.A<|ay s])++[.A<|ay w]):=(gp a4 rfl (dW (i:=40) lb)<|by rw [aR,hb];decide).trans (by rw [jE,c0,Hx.Ab]);generalize c1:(Hx H a vs<|q++[.A<|ay b]).length=r5 at c5;generalize c2:q++[O.A<|ay b,.A<|ay s]=f at c5 c6;have a5:∀{E},(Hx H a vs<|f++E)[r5]?=some (.A<|ay s):=λ{E}=>by
  rw [←c1,←c2,show q++[O.A<|ay b,.A<|ay s]++E=(q++[O.A<|ay b])++O.A (ay s)::E from by simp];exact Hx.Aj
 have c3:H.length<r5:=by rw [←c1,Hx.Ac];lia
 generalize Z:(Hx H a vs f).length=r6 at c6;have c4:H.length<r6:=by rw [←Z,Hx.Ac];exact Qr (Nat.lt_succ_self _)<|Qq ..
 have a6:∀{X_:O} {E},(Hx H a vs<|f++X_::E)[r6]?=some X_:=λ{X_ E}=>by rw [←Z];exact Hx.Aj
 have t6:∀{X_ Y_:O} {E},(Hx H a vs<|f++X_::E).set r6 Y_=Hx H a vs (f++Y_::E):=λ{X_ Y_ E}=>by rw [←Z];exact Hx.Ak
 have RA:∀{E},ic (Hx H a vs<|f++E) H.length vs hs:=λ{E}=>by rw [←c2,Qn];exact R4
 generalize l:(Lc.Aa (Lc.Aa (Lc.Aa l3 10<|.B r4) 11<|.B r5) 10<|.B r6)=lb;have q1:lb 1=some (.A p):=l ▸l1;have q2:lb 2=some (.B H.length):=l ▸l2;have q3:lb 3=some (.A (sJ (0,false) hs).1):=l ▸f1;have q4:lb 4=some (.E (sJ (0,false) hs).2):=l ▸l4;have q5:lb 5=some (.E g):=l ▸l5;have q6:lb 6=some (.E<|g||pu hs.tail):=l ▸l6;have F:lb 10=some (.B r6):=l ▸rfl;have f6:lb 11=some (.B r5):=l ▸rfl;have c8:∀{rr:bJ (Fl×Lc)},au c (fw.Aa.drop 6) lb (Hx H a vs<|f++[.A<|ay w])=rr->au c (fw.Aa.drop 3) l3 (Hx H o3 vs q)=rr:=λh=>by
  refine ah (az<|av (ae (aa f0)<|ae rfl aj) e4)<|ah (az<|dX (aa rfl) rfl rfl c5)<|ah (az<|dX (aa rfl) rfl rfl c6) ?_;rw [←l] at h;exact h
 clear l;obtain⟨v0,f7,W,d0⟩:∃v0:Nat,ak c (.E .Add (.O (.A 5) (.B 64)<|.B 96)<|.E .Mod (.H (.A 10)<|.B 0)<|.B 16) lb (Hx H a vs<|f++[.A<|ay w])=.ok (.A v0) (Hx H a vs<|f++[.A<|ay w])/\v0<256/\v0/ 16=if g then 4 else 6:=by
  have G:cW w 0%16<16:=Nat.mod_lt _ dd;have eb:ak c (.E .Mod (.H (.A 10)<|.B 0)<|.B 16) lb (Hx H a vs<|f++[.A<|ay w])=.ok (.A (cW w 0%16:Nat)) (Hx H a vs<|f++[.A<|ay w]):=aq (aJ (aa F) rfl<|dw a6 (sy (i:=0)<|mT<|Qk<|QR y)<|by rw [aR];exact aU<|Qk y) rfl<|bL (q:=16) dd
  cases g with
  |true=>exact cz (64+cW w 0%16) (aq (cf (tY q5) rfl) eb rfl) (eJ<|Qf (Qd 64)<|Qm G) (by exact(Nat.mul_add_div (m:=16) (ZD _) 4 _).trans<|Qt (4+·)<|Nat.div_eq_of_lt G)
  |false=>exact cz (96+cW w 0%16) (aq (ci (tY q5) rfl) eb rfl) (eJ<|Qf (Qd 96)<|Qm G) (by exact(Nat.mul_add_div (m:=16) (ZD _) 6 _).trans<|Qt (6+·)<|Nat.div_eq_of_lt G)
 generalize a0:w.set 0 (UInt8.ofNat v0)=u;have J:u.length=40:=by rw [←a0,Qo,y]
 have s7:aN c (.A (.B (.A 10)<|.B 0)<|.E .Add (.O (.A 5) (.B 64)<|.B 96)<|.E .Mod (.H (.A 10)<|.B 0)<|.B 16) lb (Hx H a vs<|f++[.A<|ay w])=.ok (.Aa,lb) (Hx H a vs<|f++[.A<|ay u]):=
  cm f7 (pj F rfl<|(dY (j:=0) a6 (by rw [aR];exact mT<|Qk<|QR y)<|by rw [aR];exact aU<|Qk y).trans<|by rw [kI W,a0,t6])
 have d1:=ajb hp C;have e8:ak c (.O (.I .NotEq (.A 2)<|.M []) (.H (.H (.A 2)<|.B 0)<|.B 0)<|.A 1) lb (Hx H a vs<|f++[.A<|ay u])=.ok (.A<|nk p hs) (Hx H a vs<|f++[.A<|ay u,.A []]):=by
  have en:ak c (.M []) lb (Hx H a vs<|f++[.A<|ay u])=.ok (.B (Hx H a vs<|f++[.A<|ay u]).length) (Hx H a vs<|f++[.A<|ay u,.A []]):=(cV aj).trans (by rw [Hx.Ab,Qn];rfl);have gn:(Hx H a vs<|f++[.A<|ay u,.A []])[(Hx H a vs<|f++[.A<|ay u]).length]?=some (.A []):=by
   rw [show f++[O.A<|ay u,.A []]=(f++[O.A<|ay u])++[.A []] from by simp];exact Hx.Ae
  have t:=am (op:=.NotEq) (aa (c:=c) (l:=lb) (H:=Hx H a vs<|f++[.A<|ay u]) q2) en<|aff Hx.Ad (RA (E:=[.A<|ay u,.A []])) gn
  cases hh:hs with
  |nil=>rw [hh] at t;exact ci t<|aa q1
  |cons h r=>
   refine aT ((RA (E:=[O.A<|ay u,.A []])).at (j:=0) (h:=h)<|by rw [hh];rfl) λi w1 _=>?_;rw [hh] at t;exact cf t<|aJ (aJ (aa q2) rfl<|dw (j:=0) Hx.Ad w1<|by rw [z];exact aU<|Qa n<|Qm B) rfl<|bu (i:=0) rfl
 generalize K:u.set 6 (UInt8.ofNat<|nk p hs)=v;have A:v.length=40:=by rw [←K,Qo,J]
 have s8:aN c (.A (.B (.A 10)<|.B 6)<|.O (.I .NotEq (.A 2)<|.M []) (.H (.H (.A 2)<|.B 0)<|.B 0)<|.A 1) lb (Hx H a vs<|f++[.A<|ay u])=.ok (.Aa,lb) (Hx H a vs<|f++[.A<|ay v,.A []]):=
  cm e8 (pj F rfl<|(dY (j:=6) a6 (by rw [aR];exact mT<|Qk<|QR J)<|by rw [aR];exact aU<|Qk J).trans<|by rw [kI d1,K,t6])
 refine zd (agF (c:=c) (H:=H) (o:=a) (vs:=vs) (hs:=hs) (p:=p) (base:=v) (l:=lb) (H':=Hx H a vs<|f++[.A<|ay v,.A []]) hp (vd C) (aU<|Qf (Qk A) hA) (aU<|Qa n<|Qm B) q1 q2 ⟨_,r6,[],rfl,RA,F,by rw [QF];exact a6,c4,rfl⟩) λl9 H9 e9 A9 k9 f9=>?_;have g0:ak c (.K "range" [.K "len" [.A 2]]) lb (Hx H a vs<|f++[.A<|ay v,.A []])=.ok (.I hs.length) (Hx H a vs<|f++[.A<|ay v,.A []]):=bh (vs:=[.A hs.length]) (ae (bh (ae (aa q2) aj)<|(gk Hx.Ad<|by rw [z];exact aU<|Qa n<|Qm B).trans<|by rw [z]) aj)<|mM<|aU<|Qa n<|Qm B;refine ahh A9.ex λL r9 dn z1 R9 d3 g9 g1 M=>?_;subst z1;rw [List.drop_length] at M;have M:dn=me p hs:=by rw [←M];exact(QF dn).symm
 subst M;have a1:(Hx H a vs L)[r5]?=some (.A<|ay s):=f9 r5 _ c3 a5;have w2:=(k9 2 dd nb).trans q2;have w3:=(k9 3 dd nb).trans q3;have w4:=(k9 4 dd nb).trans q4;have w6:=(k9 6 dd nb).trans q6;have g2:=(k9 11 dd nb).trans f6;have a2:(v++me p hs).length=40+(me p hs).length:=by rw [Qi,A]
 have ea:ak c (.E .Add (.A 10)<|.A 11) l9 (Hx H a vs L)=.ok (.B (Hx H a vs L).length) (Hx H a vs<|L++[.A<|ay<|v++(me p hs++s)]):=aq (aa d3) (aa g2)<|(jD g9 a1<|by rw [aR,aR];exact aU<|Qf (Qa (Qk a2)<|QB hA 40)<|Qk Y).trans (by rw [kK,Hx.Ab,Qn]);have el:ak c (.K "len" [.A 10]) l9 (Hx H a vs<|L++[.A<|ay<|v++(me p hs++s)])=.ok (.A (40+(me p hs).length:Nat)) (Hx H a vs<|L++[.A<|ay<|v++(me p hs++s)]):=bh (ae (aa d3) aj)<|(gk (Hx.Aa r9 _ g1 g9)<|by rw [aR];exact aU<|Qa (Qk a2)<|QB hA 40).trans (by rw [aR,a2]);refine aoc a (O.A vs::(L++[O.A<|ay<|v++(me p hs++s)])) (Hx H a vs L).length (v++(me p hs++s)) (40+(me p hs).length) (sJ (0,false) hs).1 (sJ (0,false) hs).2 (g||pu hs.tail) ?_ (Hx.Ae (H:=H) (o:=a) (vs:=vs) (G:=L) (ob:=.A<|ay<|v++(me p hs++s))) (by simp only [Qi,A,Y];exact acw<|Qf (Qd 40)<|Qf (QO (me p hs).length)<|Qd 24) (by simp only [Qi,A,Y];exact aU<|QB (Zo hA 24) 40) (by rw [Hx.Ac];exact Qa (Nat.le_succ _)<|Qq ..) (P4.Ab<|Qa (QQ<|QB (Zm 2<|Qm B)<|k+2)<|afx (a:=k) (d:=9) (c:=10)) (aU<|QB hA 40)<|λd hd=>?_
 ·apply aE (fd:=fw) (vs:=[.B 1,.A p]) rfl rfl;exact e5<|ah (pV er e3)<|c8<|ah s7<|ah s8<|ah (pV g0 e9)<|aI<|bf<|ae ea<|ae el<|ae (aa w3)<|ae (aa w4)<|ae (aa w6) aj
 ·have:=adH hp e0 (d:=d) (base:=v) (tail:=s) (hs:=hs) g hd A (by rw [←K];exact abP (mT<|Qk<|QR J) d1) (by rw [←K,yc nb,←a0,abP (mT<|Qk<|QR y) W,d0]) C<|aU<|Qa n<|Qm B;rw [abO] at this;exact this
theorem sM:bM 0 j b<+:b:=List.take_prefix j b
theorem aje(N:dI c){H:Hp}(t:1<H.length)(P:fq (H.set 1 o) k)(hk:k<=4000)(C:l 0=some (.B 1))(l3:l 3=some (.B r))(D:H.length<=r)(h:(H.set 1 o++G)[r]?=some (.A<|ay b))(b1:25<=b.length)(E:b.length<=200):
 ∃l' o' F u d,(∀{I:bJ (Fl×Lc)},au c (cj.Aa.drop 4) l' (H.set 1 o'++F)=I->au c (cj.Aa.drop 1) l (H.set 1 o++G)=I)/\l' 3=some (.B u)/\H.length<=u/\(H.set 1 o'++F)[u]?=some (.A<|ay d)/\d<+:b/\fq (H.set 1 o') (k+2)/\∀j,j≠3->j≠8->j≠9->l' j=l j:=by
 haveI f:∀o:O,(H.set 1 o).length=H.length:=λo=>Qo ..;refine cM (N (H.set 1 o++G) k P.Aa<|Qa ‹_› lb) λx1 o1 J K=>?_;rw [fA<|by exact af (f ..) t,Ze] at J K;refine cM (N (H.set 1 o1++G) (k+1) K<|Qv ‹_› lb) λi a L p=>?_;rw [fA<|by exact af (f ..) t,Ze] at L p;have p:=p.Ad (by exact af (f ..) t);refine aT (dj x1 (m:=4) lb) λw hw qw=>?_;have v:(H.set 1 a++G)[r]?=some (.A<|ay b):=by
  rw [QE<|by exact af (f ..) D,f] at h ⊢;exact h
 generalize g:(l.Aa 9<|.A i).Aa 8 (.A w)=e;have s1:aN c (.G [8,9]<|.D [.E .Mod (.G (.F 41) [.A 0])<|.B 4,.G (.F 41) [.A 0]]) l (H.set 1 o++G)=.ok (.Aa,e) (H.set 1 a++G):=by
  haveI ev:ak c (.D [.E .Mod (.G (.F 41) [.A 0])<|.B 4,.G (.F 41) [.A 0]]) l (H.set 1 o++G)=.ok (.F [.A w,.A i]) (H.set 1 a++G):=bf<|ae (aq (av (ae (aa C) aj) J) rfl<|(bL (q:=4) dd).trans<|by exact af (show x1%4=(w:Int) from qw) rfl)<|ae (av (ae (aa C) aj) L) aj;show(ak c (.D [.E .Mod (.G (.F 41) [.A 0])<|.B 4,.G (.F 41) [.A 0]]) l<|H.set 1 o++G).Aa _=_;exact af ev<|cI g rfl
 have x:e 3=some (.B r):=g ▸l3;have q:e 8=some (.A w):=g ▸rfl;have M:e 9=some (.A i):=g ▸rfl;have z:∀j,j≠8->j≠9->e j=l j:=λj m n=>by
  refine cI g ?_;show(if j=8 then _ else if j=9 then _ else l j)=_;exact af (Qe m)<|af (Qe n) rfl
 have Q:ak c (.K "len" [.A 3]) e (H.set 1 a++G)=.ok (.A b.length) (H.set 1 a++G):=bh (ae (aa x) aj)<|(gk v<|by exact af aR<|Qa ‹_› lb).trans (by exact af aR rfl);have R:∀{y:X} {j:Nat},ak c y e (H.set 1 a++G)=.ok (.A j) (H.set 1 a++G)->j<2^62->aN c (.A (.A 3)<|.N (.A 3) .J y) e (H.set 1 a++G)=.ok (.Aa,e.Aa 3<|.B<|H.length+G.length) (H.set 1 a++(G++[.A<|ay<|bM 0 j b])):=λhy s=>
  az (dX (aa x) rfl hy<|(gp v rfl (dW s)<|by exact af aR<|Qa ‹_› lb).trans<|by(exact af (jE ..)<|af (Qi ..)<|af (f ..)<|af (Qn ..) rfl))
 have U:∀{d:List UInt8},(H.set 1 a++(G++[O.A<|ay d]))[H.length+G.length]?=some (.A<|ay d):=λ{d}=>by
  haveI:=bn (H:=H.set 1 a) (L:=G++[O.A<|ay d]) (k:=G.length);rw [f] at this;refine af (this ..)<|af (QE (Qd _) ..) ?_;exact af (Nat.sub_self ..) rfl
 by_cases W:w=2
 ·refine aT (dj i (m:=b.length+1)<|ZD _) λj s A=>?_;haveI st:=R (y:=.E .Mod (.A 9)<|.E .Add (.K "len" [.A 3])<|.B 1) (j:=j) (aq (aa M) (aq Q rfl rfl)<|(bL<|by lia).trans<|by exact af (show i%((b.length:Int)+1)=(j:Int) from A) rfl)<|eJ<|Qa (Zq s)<|Qf E<|Qd 1;refine⟨e.Aa 3<|.B<|H.length+G.length,a,G++[O.A<|ay<|bM 0 j b],H.length+G.length,bM 0 j b,λh=>ah s1<|ah (aK (am (aa q) rfl<|eq_t (n:=2) W)<|ah st aV)<|ah (aH<|am (aa (show(e.Aa 3 _) 8=_ from q)) rfl<|eq_f (n:=3)<|by lia) h,rfl,Qq _ _,U,sM,p,λj B m n=>?_⟩;show(if j=3 then _ else e j)=_;exact af (Qe B)<|z j m n
 haveI Y:aN c (.C (.I .Eq (.A 8)<|.B 2) [.A (.A 3)<|.N (.A 3) .J<|.E .Mod (.A 9)<|.E .Add (.K "len" [.A 3])<|.B 1] []) e (H.set 1 a++G)=.ok (.Aa,e) (H.set 1 a++G):=aH<|am (aa q) rfl<|eq_f (n:=2) W
 by_cases Z:w=3
 ·refine aT (dj i (m:=25) lb) λj s A=>?_;haveI st:=R (y:=.E .Sub (.K "len" [.A 3])<|.E .Mod (.A 9)<|.B 25) (j:=b.length - j) (aq Q (aq (aa M) rfl<|(bL (q:=25) dd).trans<|by exact af (show i%25=(j:Int) from A) rfl) (show mq .Sub (.A b.length) (.A j) (H.set 1 a++G)=.ok (.A (b.length - j:Nat)) _ from by show bJ.ok (V.A<|(b.length:Int) - j) _=_;exact af (show(b.length:Int) - j=((b.length - j:Nat):Int) from by lia) rfl))<|eJ<|Qa (Nat.sub_le b.length j) E;refine⟨e.Aa 3<|.B<|H.length+G.length,a,G++[O.A<|ay<|bM 0 (b.length - j) b],H.length+G.length,bM 0 (b.length - j) b,λh=>ah s1<|ah Y<|ah (aK (am (aa q) rfl<|eq_t (n:=3) Z)<|ah st aV) h,rfl,Qq _ _,U,sM,p,λj B m n=>?_⟩;show(if j=3 then _ else e j)=_;exact af (Qe B)<|z j m n
 ·exact⟨e,a,G,r,b,λh=>ah s1<|ah Y<|ah (aH<|am (aa q) rfl<|eq_f (n:=3) Z) h,x,D,v,List.prefix_refl b,p,λj _ m n=>z j m n⟩
def qT(c:CF):Prop:=∀H k (kd p:Nat),fq H k->k<=2800->p<256->vV p 0=0->∃o G r d q,c 49 [.B 1,.A kd,.A p] H=.ok (.F [.B r,bU q]) (H.set 1 o++G)/\(H.set 1 o++G)[r]?=some (.A<|ay d)/\H.length<=r/\d.length<=170/\eA kd d=some q/\fq (H.set 1 o) (k+20)
theorem agH(N:dI c)(Y:mc c)(F:qR c)(Z:nH c)(S6:yd c):qT (λx=>aM c x):=by
 intro H k kd p P M Q I;haveI R:=P.Ac;haveI J:∀o:O,(H.set 1 o).length=H.length:=λo=>Qo ..;haveI gl:∀{o:O} {d:List UInt8},(H.set 1 o++[O.A<|ay d])[H.length]?=some (.A<|ay d):=λ{o d}=>by
  haveI:=bn (H:=H.set 1 o) (L:=[O.A<|ay d]) (k:=0);rw [J,Nat.add_zero] at this;exact this
 by_cases h:kd=34525
 ·refine kg (S6 H k p P (Qa ‹_› lb) Q I) λo G r b w=>kg w λe pl z od w=>gF w λi g1 l w=>acu w λm hr q he A=>amS (aje N (l:=Lc.Aa (Lc.Aa (Lc.Aa (Lc.Aa (Lc.Aa (λj=>[V.B 1,.A kd,.A p][j]?) 3<|.B r) 4<|.A e) 5<|.A pl) 6<|.E z) 7<|.E od) R q (aU<|Qf M<|Qd 10) rfl rfl hr g1 l<|Qa m lb) λl' o' f B d s u g v D E n=>?_;haveI a:d.length<=b.length:=D.length_le;refine⟨o',f,B,d,if od=true∨d.length<e then none else some (p,e,pl,z),?_,v,g,Qa ‹_› ‹_›,?_,E.Ab<|by lia⟩
  ·haveI s0:aN c (.C (.I .Eq (.A 1)<|.B 34525) [.A (.D [.A 3,.A 4,.A 5,.A 6,.A 7])<|.G (.F 48) [.A 0,.A 2]] [.C (.I .Eq (.A 1)<|.B 2048) [.A (.A 3)<|.G (.F 45) [.A 0,.A 2]] [.A (.A 3)<|.G (.F 42) [.A 0,.B 30]]]) (λj=>[V.B 1,.A kd,.A p][j]?) H=.ok (.Aa,Lc.Aa (Lc.Aa (Lc.Aa (Lc.Aa (Lc.Aa (λj=>[V.B 1,.A kd,.A p][j]?) 3<|.B r) 4<|.A e) 5<|.A pl) 6<|.E z) 7<|.E od) (H.set 1 o++G):=
    aK (am (aa rfl) rfl<|eq_t (n:=34525) h) (ah (cm (av (ae (aa rfl)<|ae (aa rfl) aj) i)<|nz rfl rfl) aV)
   haveI C:l' 1=some (.A kd):=n 1 nb nb nb;haveI m2:l' 2=some (.A p):=n 2 nb nb nb;haveI K:l' 4=some (.A e):=n 4 nb nb nb;haveI m5:l' 5=some (.A pl):=n 5 nb nb nb;haveI m6:l' 6=some (.E z):=n 6 nb nb nb;haveI L:l' 7=some (.E od):=n 7 nb nb nb;haveI U:ak c (.K "len" [.A 3]) l' (H.set 1 o'++f)=.ok (.A d.length) (H.set 1 o'++f):=bh (ae (aa u) aj)<|(gk v<|by exact af aR<|aU<|Qa a m).trans (by exact af aR rfl);have ex:ak c (.O (.P false [.A 7,.I .Lt (.K "len" [.A 3])<|.A 4]) .J<|.D [.A 2,.A 4,.A 5,.A 6]) l' (H.set 1 o'++f)=.ok (bU<|if od=true∨d.length<e then none else some (p,e,pl,z)) (H.set 1 o'++f):=by
    cases od with
    |true=>exact af (Qh<|.inl rfl)<|cf (cu (d:=false)<|tY L) rfl
    |false=>
     by_cases y:d.length<e
     ·exact af (Qh<|.inr y)<|cf (bD (tY L)<|cu (d:=false)<|am U (aa K)<|abF y) rfl
     ·exact af (Qe (λx=>by rcases x with x|x;injection x;exact y x))<|ci (bD (tY L)<|bD (am U (aa K)<|vk<|QW y) fL)<|bf<|ae (aa m2)<|ae (aa K)<|ae (aa m5)<|ae (aa m6) aj
   apply aE (fd:=cj) (vs:=[.B 1,.A kd,.A p]) rfl rfl;exact ah s0<|s<|bb<|aK (am (aa C) rfl<|eq_t (n:=34525) h)<|aI<|bf<|ae (aa u)<|ae ex aj
  ·unfold eA;exact af (Qe<|aeC<|Qk<|QR h)<|af (Qh h)<|A d D
 obtain⟨o,b,i,l,m,q⟩:∃o b,aN c (.C (.I .Eq (.A 1)<|.B 34525) [.A (.D [.A 3,.A 4,.A 5,.A 6,.A 7])<|.G (.F 48) [.A 0,.A 2]] [.C (.I .Eq (.A 1)<|.B 2048) [.A (.A 3)<|.G (.F 45) [.A 0,.A 2]] [.A (.A 3)<|.G (.F 42) [.A 0,.B 30]]]) (λj=>[V.B 1,.A kd,.A p][j]?) H=.ok (.Aa,Lc.Aa (λj=>[V.B 1,.A kd,.A p][j]?) 3<|.B H.length) (H.set 1 o++[.A<|ay b])/\25<=b.length/\b.length<=170/\fq (H.set 1 o) (k+4):=by
  by_cases t:kd=2048
  ·exact zd (F H k p P (Qa ‹_› lb) Q) λb o i l m q=>wc o b (pS (am (aa rfl) rfl<|eq_f (n:=34525) h)<|ah (aK (am (aa rfl) rfl<|eq_t (n:=2048) t)<|ah (az<|av (ae (aa rfl)<|ae (aa rfl) aj) i) aV) aV) l (Qa ‹_› lb) q
  ·exact dN (Y H k 30 P (Qa ‹_› lb) lb) λb o i l q=>wc o b (pS (am (aa rfl) rfl<|eq_f (n:=34525) h)<|ah (pS (am (aa rfl) rfl<|eq_f (n:=2048) t)<|ah (az<|av (ae (aa rfl)<|ae rfl aj) i) aV) aV) (acw<|Qk<|QR l) (aU<|Qk l)<|q.Ab<|Zs lb
 refine amS (aje N (l:=Lc.Aa (λj=>[V.B 1,.A kd,.A p][j]?) 3<|.B H.length) R q (aU<|Qf M<|Qd 4) rfl rfl (Qd _) gl l<|Qa m lb) λl' o' f B d s u g v D E n=>?_;haveI a:d.length<=b.length:=D.length_le;have C:l' 1=some (.A kd):=n 1 nb nb nb;haveI W:bj c (.I .Eq (.A 1)<|.B 34525) l' (H.set 1 o'++f)=.ok false (H.set 1 o'++f):=am (aa C) rfl<|eq_f (n:=34525) h
 by_cases t:kd=2048
 ·refine⟨o',f,B,d,ji d,?_,v,g,aU<|Qa a m,by unfold eA;exact af (Qh t) rfl,E.Ab<|by lia⟩;apply aE (fd:=cj) (vs:=[.B 1,.A kd,.A p]) rfl rfl;exact ah i<|s<|ah (aH W)<|aI<|bf<|ae (aa u)<|ae (cf (am (aa C) rfl<|eq_t (n:=2048) t)<|av (ae (aa u) aj)<|Z _ B d v<|aU<|Qa a m) aj
 ·refine⟨o',f,B,d,none,?_,v,g,aU<|Qa a m,by unfold eA;refine af (Qe t) ?_;exact af (Qe h) rfl,E.Ab<|by lia⟩;apply aE (fd:=cj) (vs:=[.B 1,.A kd,.A p]) rfl rfl;exact ah i<|s<|ah (aH W)<|aI<|bf<|ae (aa u)<|ae (ci (am (aa C) rfl<|eq_f (n:=2048) t) rfl) aj
noncomputable def fB(p:Nat×Nat):qg:=(p.1,p.2/ 8192,p.2/ 4096%2,p.2%4096)
noncomputable def b2(v:Nat):List UInt8:=[UInt8.ofNat<|v/ 256,UInt8.ofNat<|v%256]
noncomputable def iX(kd:Nat):List (Nat×Nat)->List UInt8
 |[]=>b2 kd
 |p::r=>b2 p.1++(b2 p.2++iX kd r)
abbrev qu(k:Nat):Prop:=k=33024∨k=34984
theorem kL(a:List (Nat×Nat)):(iX kd a).length=2+4*a.length:=by
 induction a with
 |nil=>rfl
 |cons p r b=>show(b2 p.1++(b2 p.2++iX kd r)).length=_;rw [Qi,Qi,QG,b];show 2+(2+_)=_;lia
theorem sN(b:d<+:a++(b2 v++x))(c:v<65536)(e:a.length=i)(f:i+2<=d.length):fF d i=v:=by
 subst e;unfold fF;refine af (iO b<|by lia)<|af (iO b<|Nat.lt_of_succ_le f)<|af (show cW (a++(b2 v++x)) a.length=_ from pW (i:=0))<|af (pW (i:=1)) ?_;show(UInt8.ofNat<|v/ 256).toNat*256+(UInt8.ofNat<|v%256).toNat=v;exact af UInt8.toNat_ofNat'<|af UInt8.toNat_ofNat'<|alM c
theorem aay(y:kd<65536)(z:¬qu kd)(b:List (Nat×Nat)):∀(a:List UInt8) (c:List qg) (n:Nat),d<+:a++(iX kd b++rest)->(∀p∈b,qu p.1/\p.2<65536)->b.length<n->a.length+2<=d.length->
 uV d n (fF d a.length) (a.length+2) c=some (if d.length<a.length+(iX kd b).length then none else some (c++b.map fB,kd,a.length+(iX kd b).length)):=by
 induction b with
 |nil=>
  intro a c n k _ i j
  cases n with
  |zero=>exact absurd i<|Nat.not_lt_zero _
  |succ n=>refine af (sN k y rfl j) ?_;unfold uV;refine af (Qe z)<|af (Qe (show ¬d.length<a.length+(iX kd []).length from QH.mpr j)) ?_;show _=some (some (c++[],kd,a.length+2));exact af (QF ..) rfl
 |cons p r A=>
  intro a c n k v i j
  cases n with
  |zero=>exact absurd i<|Nat.not_lt_zero _
  |succ n=>
   haveI l:=kL (kd:=kd) r;haveI o:=kL (kd:=kd)<|p::r;haveI B:(p::r).length=r.length+1:=rfl;haveI s:=v p<|.head _;haveI t:p.1<65536:=by rcases s.1 with h|h<;>exact eJ<|Qk h
   have f:d<+:a++(b2 p.1++((b2 p.2++iX kd r)++rest)):=by
    haveI e:iX kd (p::r)++rest=b2 p.1++((b2 p.2++iX kd r)++rest):=Qn ..;exact cI e k
   refine af (sN f t rfl j) ?_;unfold uV;refine af (Qh s.1) ?_
   by_cases h:d.length<a.length+2+4
   ·exact af (Qh h)<|af (Qh<|by lia) rfl
   ·have g:d<+:(a++b2 p.1)++(b2 p.2++(iX kd r++rest)):=by(refine af (Qn ..)<|cI (Qn (b2 p.2) ..) ?_);exact f
    haveI u:d<+:(a++b2 p.1++b2 p.2)++(iX kd r++rest):=by exact af (Qn (a++b2 p.1) ..) g
    have w:(a++b2 p.1).length=a.length+2:=Qi;have x:(a++b2 p.1++b2 p.2).length=a.length+4:=by(refine af Qi<|af w ?_);rfl
    refine af (Qe h)<|af (sN g s.2 w<|alL (d:=2) h) ?_;haveI q:=A (a++b2 p.1++b2 p.2) (c++[fB p]) n u (λq m=>v q<|.tail _ m) (Nat.lt_of_succ_lt_succ i) (by rw [x];exact QH.mp h);rw [x] at q;refine q.trans ?_;rw [show a.length+(iX kd<|p::r).length=a.length+4+(iX kd r).length from by(refine af o ?_;refine af l ?_;refine af QG ?_);lia,Qn];rfl
theorem adK(c:kd<65536)(f:¬qu kd)(b:base.length=12)(g:d<+:base++(iX kd a++rest))(i:∀p∈a,qu p.1/\p.2<65536)(j:a.length<=3):
 jM d=some (if d.length<14+4*a.length then none else some (a.map fB,kd,14+4*a.length)):=by
 haveI e:14+4*a.length=base.length+(iX kd a).length:=by(refine af (kL ..)<|af (b ..) ?_);lia
 unfold jM
 by_cases h:d.length<14
 ·exact af (Qh h)<|af (Qh<|Qr h<|Qq 14<|4*a.length) rfl
 ·haveI q:=aay c f a base [] 100 g i (Qv ‹_› lb) (by rw [b];exact QH.mp h);rw [←e,b] at q;exact af (Qe h) q
section
section
variable {H E:Hp} {o o':O} {vs ws:List V} {G:List O}
theorem Hx.Ah(a:i≠1)(b:i≠H.length)(e:(Hx H o vs G)[i]?=some ob):(Hx H o' ws<|G++E)[i]?=some ob:=by
 haveI c:∀o:O,(H.set 1 o).length=H.length:=λo=>Qo ..
 by_cases h:i<H.length
 ·unfold Hx at e ⊢;rw [Qj<|by exact af (c ..) h,QA<|Ne.symm a] at e ⊢;exact e
 ·exact Hx.Aa i ob (amV b h) e
end
def tgB(a:List (Nat×Nat)):List UInt8:=a.flatMap λp=>b2 p.1++b2 p.2
theorem vW(a:List (Nat×Nat)):tgB a++b2 kd=iX kd a:=by
 induction a with
 |nil=>rfl
 |cons p r b=>show(b2 p.1++b2 p.2++tgB r)++b2 kd=b2 p.1++(b2 p.2++iX kd r);exact cI b<|af (Qn ..)<|af (Qn ..) rfl
theorem vX(h:v<65536):ay (b2 v)=[.A (v/ 256:Nat),.A (v%256:Nat)]:=by
 show [V.A ((UInt8.ofNat<|v/ 256).toNat:Nat),V.A ((UInt8.ofNat<|v%256).toNat:Nat)]=_;exact af (Zi (show v/ 256<2^8 by lia))<|af (Zi (show v%256<2^8 by lia)) rfl
structure IF(K:Hp)(base:List UInt8)(k t:Nat)(l:Lc)(H':Hp)(o:O)(G:List O)(r:Nat)(qs:List (Nat×Nat)):Prop where
 hp:H'=Hx K o (qs.map λp=>bp<|fB p) G
 Ab:(Hx K o (qs.map λp=>bp<|fB p) G)[r]?=some (.A<|ay<|base++tgB qs)
 r1:r≠1
 rk:r≠K.length
 rb:K.length<=r+1
 Aa:∀p∈qs,qu p.1/\p.2<65536
 Ac:qs.length=t
 Ad:fq (Hx K o (qs.map λp=>bp<|fB p) G) (k+t)
 l0:l 0=some (.B 1)
 l3:l 3=some (.B r)
 l4:l 4=some (.B K.length)
noncomputable abbrev adL:List S:=[.A (.A 8)<|.G (.F 41) [.A 0],.G [9,10]<|.D [.H (.D [.B 33024,.B 34984])<|.E .Mod (.A 8)<|.B 2,.E .Mod (.E .FloorDiv (.A 8)<|.B 2)<|.B 65536],.D<|.R (.A 4) "append" [.D [.A 9,.E .FloorDiv (.A 10)<|.B 8192,.E .Mod (.E .FloorDiv (.A 10)<|.B 4096)<|.B 2,.E .Mod (.A 10)<|.B 4096]],.A (.A 3)<|.E .Add (.A 3)<|.M [.E .FloorDiv (.A 9)<|.B 256,.E .Mod (.A 9)<|.B 256,.E .FloorDiv (.A 10)<|.B 256,.E .Mod (.A 10)<|.B 256]]
theorem amv(N:dI c)(i:1<K.length)(Z:k<=3000)(J:t<=10)(hb:base.length=12)(I:IF K base k t l H' o G r a):
 ∃l' n o' G' r' p,au c adL (l.Aa 7<|.A t) H'=.ok (.Aa,l') n/\IF K base k (t+1) l' n o' G' r' (a++[p])/\∀j,j≠3->j<7->l' j=l j:=by
 obtain⟨rfl,z,r1,rk,rb,s,rfl,A,L,l3,M⟩:=I;have m2:∀a:List (Nat×Nat),(tgB a).length=4*a.length:=λa=>by
  haveI:=kL (kd:=0) a;rw [←vW,Qi] at this;haveI:(b2 0).length=2:=rfl;lia
 refine cM (N _ _ A<|aU<|Qf Z J) λx b P Q=>?_;rw [Hx.Af i] at P Q;refine aT (dj x (m:=2) lb) λj hj qj=>aT (dj (x/ 2) (m:=65536) lb) λw R qw=>?_;obtain⟨tg,B,u⟩:∃tg:Nat,[V.A 33024,V.A 34984][j]?=some (.A tg)/\qu tg:=by
  rcases j with _|_|j
  ·exact bv 33024 rfl<|.inl rfl
  ·exact bv 34984 rfl<|.inr rfl
  ·lia
 haveI C:tg<65536:=by rcases u with h|h<;>exact eJ<|Qk h
 haveI D:∀{xs:List V} {E:List O},(Hx K b xs<|G++E)[r]?=some (.A<|ay<|base++tgB a):=λ{xs E}=>Hx.Ah r1 rk z;haveI U:∀{l:Lc} {H:Hp},l 9=some (.A tg)->ak c (.E .FloorDiv (.A 9)<|.B 256) l H=.ok (.A (tg/ 256:Nat)) H/\ak c (.E .Mod (.A 9)<|.B 256) l H=.ok (.A (tg%256:Nat)) H:=λh=>⟨aq (aa h) rfl<|eY ⟨dd,lb⟩,aq (aa h) rfl<|bL dd⟩;have v:∀{l:Lc} {H:Hp} {q:Int} (m:Nat),q=m->0<q/\Builtin.Int.intBits q<=8000->l 10=some (.A w)->ak c (.E .FloorDiv (.A 10)<|.B q) l H=.ok (.A (w/ m:Nat)) H/\ak c (.E .Mod (.A 10)<|.B q) l H=.ok (.A (w%m:Nat)) H:=λm e W h=>by subst e;exact⟨aq (aa h) rfl<|eY W,aq (aa h) rfl<|bL W.1⟩
 haveI s1:aN c (.A (.A 8)<|.G (.F 41) [.A 0]) (l.Aa 7<|.A a.length) (Hx K o (a.map λp=>bp<|fB p) G)=.ok (.Aa,(l.Aa 7<|.A a.length).Aa 8<|.A x) (Hx K b (a.map λp=>bp<|fB p) G):=az<|av (ae (aa (show(l.Aa 7 _) 0=_ from L)) aj) P;have Y:aN c (.G [9,10]<|.D [.H (.D [.B 33024,.B 34984])<|.E .Mod (.A 8)<|.B 2,.E .Mod (.E .FloorDiv (.A 8)<|.B 2)<|.B 65536]) ((l.Aa 7<|.A a.length).Aa 8<|.A x) (Hx K b (a.map λp=>bp<|fB p) G)=.ok (.Aa,(((l.Aa 7<|.A a.length).Aa 8<|.A x).Aa 10<|.A w).Aa 9<|.A tg) (Hx K b (a.map λp=>bp<|fB p) G):=by
  haveI ev:ak c (.D [.H (.D [.B 33024,.B 34984])<|.E .Mod (.A 8)<|.B 2,.E .Mod (.E .FloorDiv (.A 8)<|.B 2)<|.B 65536]) ((l.Aa 7<|.A a.length).Aa 8<|.A x) (Hx K b (a.map λp=>bp<|fB p) G)=.ok (.F [.A tg,.A w]) (Hx K b (a.map λp=>bp<|fB p) G):=
   bf (ae (aJ (x:=.F [.A 33024,.A 34984]) rfl (aq (aa rfl) rfl<|(bL (q:=2) dd).trans<|by exact af (show x%2=(j:Int) from qj) rfl)<|gV B lb)<|ae (aq (aq (aa rfl) rfl<|eY (q:=2) ⟨dd,lb⟩) rfl<|(bL (q:=65536) dd).trans<|by exact af (show x/ 2%65536=(w:Int) from qw) rfl) aj)
  show(ak c (.D [.H (.D [.B 33024,.B 34984])<|.E .Mod (.A 8)<|.B 2,.E .Mod (.E .FloorDiv (.A 8)<|.B 2)<|.B 65536]) ((l.Aa 7<|.A a.length).Aa 8<|.A x)<|Hx K b (a.map λp=>bp<|fB p) G).Aa _=_;exact af ev rfl
 generalize f:(((l.Aa 7<|.A a.length).Aa 8<|.A x).Aa 10<|.A w).Aa 9 (.A tg)=g at Y;have F:g 9=some (.A tg):=f ▸rfl;have d:g 10=some (.A w):=f ▸rfl;have y:∀j,j<7->g j=l j:=λj h=>by
  refine cI f ?_;show(if j=9 then _ else if j=10 then _ else if j=8 then _ else if j=7 then _ else l j)=_;exact af (Qe<|mj<|Qm h)<|af (Qe<|mj<|Qm h)<|af (Qe<|mj<|Qm h)<|af (Qe<|QC h) rfl
 haveI s3:aN c (.D<|.R (.A 4) "append" [.D [.A 9,.E .FloorDiv (.A 10)<|.B 8192,.E .Mod (.E .FloorDiv (.A 10)<|.B 4096)<|.B 2,.E .Mod (.A 10)<|.B 4096]]) g (Hx K b (a.map λp=>bp<|fB p) G)=.ok (.Aa,g) (Hx K b ((a++[(tg,w)]).map λp=>bp<|fB p) G):=
  jm (nB (aa<|(y 4 lb).trans M) (mG Hx.Ad) (ae (bf<|ae (aa F)<|ae (v 8192 rfl ⟨dd,lb⟩ d).1<|ae (aq (v 4096 rfl ⟨dd,lb⟩ d).1 rfl<|bL dd)<|ae (v 4096 rfl ⟨dd,lb⟩ d).2 aj) aj)<|(mF Hx.Ad<|by exact af (QU ..)<|Qv ‹_› lb).trans<|by(refine af Hx.Ai<|af ZL ?_);rfl)
 haveI x4:ak c (.M [.E .FloorDiv (.A 9)<|.B 256,.E .Mod (.A 9)<|.B 256,.E .FloorDiv (.A 10)<|.B 256,.E .Mod (.A 10)<|.B 256]) g (Hx K b ((a++[(tg,w)]).map λp=>bp<|fB p) G)=.ok (.B (Hx K b ((a++[(tg,w)]).map λp=>bp<|fB p) G).length) (Hx K b ((a++[(tg,w)]).map λp=>bp<|fB p)<|G++[.A<|ay<|b2 tg++b2 w]):=
  (cV<|ae (U F).1<|ae (U F).2<|ae (v 256 rfl ⟨dd,lb⟩ d).1<|ae (v 256 rfl ⟨dd,lb⟩ d).2 aj).trans (by(refine af Hx.Ab<|cI kK<|af (vX C)<|af (vX R) ?_);rfl)
 haveI x5:=(jD (D (xs:=(a++[(tg,w)]).map λp=>bp<|fB p) (E:=[.A<|ay<|b2 tg++b2 w])) Hx.Ae<|by(refine af (aR ..)<|af (aR ..)<|af (Qi ..)<|af (m2 ..)<|af (hb ..) ?_);show _+4<=_;exact aU<|Qf (Qf (Qd 12)<|QJ (Qd 4) J)<|Qd 4).trans (by(exact af Hx.Ab<|af kK rfl));refine⟨_,_,b,_,_,(tg,w),ah s1<|ah Y<|ah s3<|ah (az<|aq (aa<|(y 3 lb).trans l3) x4 x5) aV,⟨rfl,?_,?_,?_,?_,?_,?_,?_,(y 0 lb).trans L,rfl,(y 4 lb).trans M⟩,λj h3 h7=>?_⟩
 ·rw [Hx.Ae,Qn,show tgB a++(b2 tg++b2 w)=tgB (a++[(tg,w)]) from by unfold tgB;refine af List.flatMap_append ?_;simp]
 ·refine af Hx.Ac ?_;lia
 ·refine af Hx.Ac ?_;lia
 ·refine af Hx.Ac ?_;lia
 ·intro p m;rcases Zd.mp m with m|m
  ·exact s p m
  ·rcases QM.mp m with rfl;exact⟨u,R⟩
 ·exact af Qi rfl
 ·exact Q.of (by unfold Hx;refine af (Qj<|by rw [Qo];exact mT<|Nat.succ_le_of_lt i) ?_;exact af (Qj<|by rw [Qo];exact mT<|Nat.succ_le_of_lt i) rfl) (by unfold Hx;refine af (Qj<|by rw [Qo];exact mT<|Nat.succ_le_of_lt i) ?_;exact af (Qj<|by rw [Qo];exact mT<|Nat.succ_le_of_lt i) rfl)
 ·show(if j=3 then _ else g j)=_;exact af (Qe h3)<|y j h7
end
def nJ(c:CF):Prop:=∀H k (kd m:Nat),fq H k->k<=2900->kd<65536->m<=3->∃o G r t base a,c 50 [.B 1,.A kd,.A m] H=.ok (.F [.B r,.F [.A<|aQ<|bM 0 6 base,.A<|aQ<|bM 6 12 base,.B t,.A kd]]) (H.set 1 o++G)/\(H.set 1 o++G)[r]?=some (.A<|ay<|base++iX kd a)/\
 (H.set 1 o++G)[t]?=some (.A<|a.map λp=>bp<|fB p)/\H.length<=r/\H.length<=t/\base.length=12/\a.length=m/\(∀p∈a,qu p.1/\p.2<65536)/\fq (H.set 1 o) (k+5)
theorem adM(N:dI c)(Y:mc c)(W:lz c):nJ (λx=>aM c x):=by
 intro H k kd m P hk A s;have z:=P.Ac;haveI B:∀o:O,(H.set 1 o).length=H.length:=λo=>Qo ..;refine dN (Y H k 12 P (Qa ‹_› lb) lb) λbase o C i Z=>?_;haveI Q:∀o:O,H.set 1 o++[O.A<|ay base]=(H++[O.A<|ay base]).set 1 o:=λo=>(fA z).symm;rw [Q] at C;haveI u:(H++[O.A<|ay base])[H.length]?=some (.A<|ay base):=bn (k:=0) (H:=H) (L:=[O.A<|ay base]);haveI f:(H++[O.A<|ay base]).length=H.length+1:=Qi ..;have g:∀{o:O} {vs:List V} {G:List O},Hx (H++[O.A<|ay base]) o vs G=H.set 1 o++(O.A (ay base):: .A vs::G):=λ{o vs G}=>by
  unfold Hx;refine cI (Q ..) ?_;refine af (Qn ..) ?_;rfl
 generalize a0:H++[O.A<|ay base]=K at C u f g;have l:∀{o:O} {vs:List V} {G:List O},(Hx K o vs G)[H.length]?=some (.A<|ay base):=λ{o vs G}=>by
  unfold Hx;refine af (Qj<|by rw [Qo];exact amW f) ?_;refine af (QA<|QC z) ?_;exact u
 haveI s0:aN c (.G [3,4]<|.D [.G (.F 42) [.A 0,.B 12],.M []]) (λj=>[V.B 1,.A kd,.A m][j]?) H=.ok (.Aa,Lc.Aa (Lc.Aa (λj=>[V.B 1,.A kd,.A m][j]?) 4<|.B K.length) 3<|.B H.length) (Hx K o [] []):=by
  haveI D:ak c (.D [.G (.F 42) [.A 0,.B 12],.M []]) (λj=>[V.B 1,.A kd,.A m][j]?) H=.ok (.F [.B H.length,.B K.length]) (Hx K o [] []):=
   bf (ae (av (ae (aa rfl)<|ae rfl aj) C)<|ae ((cV aj).trans<|by refine af Qo ?_;rfl) aj)
  show(ak c (.D [.G (.F 42) [.A 0,.B 12],.M []]) (λj=>[V.B 1,.A kd,.A m][j]?) H).Aa _=_;refine af D ?_;rfl
 haveI s1:aN c (.G [5,6]<|.D [.G (.F 44) [.N (.A 3) .J<|.B 6],.G (.F 44) [.N (.A 3) (.B 6) .J]]) (Lc.Aa (Lc.Aa (λj=>[V.B 1,.A kd,.A m][j]?) 4<|.B K.length) 3<|.B H.length) (Hx K o [] [])=.ok (.Aa,Lc.Aa (Lc.Aa (Lc.Aa (Lc.Aa (λj=>[V.B 1,.A kd,.A m][j]?) 4<|.B K.length) 3<|.B H.length) 6<|.A<|aQ<|bM 6 12 base) 5<|.A<|aQ<|bM 0 6 base) (Hx K o [] [.A<|ay<|bM 0 6 base,.A<|ay<|bM 6 12 base]):=by
  haveI R:∀{a b:Nat},(bM a b base).length<=200:=λ{a b}=>by unfold bM;refine af QK ?_;refine af QL ?_;exact Qa (Nat.sub_le ..)<|Qa (Nat.min_le_right ..)<|aU<|Qk i
  haveI D:ak c (.D [.G (.F 44) [.N (.A 3) .J<|.B 6],.G (.F 44) [.N (.A 3) (.B 6) .J]]) (Lc.Aa (Lc.Aa (λj=>[V.B 1,.A kd,.A m][j]?) 4<|.B K.length) 3<|.B H.length) (Hx K o [] [])=.ok (.F [.A<|aQ<|bM 0 6 base,.A<|aQ<|bM 6 12 base]) (Hx K o [] [.A<|ay<|bM 0 6 base,.A<|ay<|bM 6 12 base]):=by
   haveI y1:=(gp (l (o:=o) (vs:=[]) (G:=[])) (x:=.C) (y:=.A 6) (a:=0) (b:=6) rfl rfl<|by refine af aR ?_;exact aU<|Qk i).trans (by(refine af Hx.Ab ?_;exact af jE rfl));haveI y2:=(gp (l (o:=o) (vs:=[]) (G:=[]++[.A<|ay<|bM 0 6 base])) (x:=.A 6) (y:=.C) (a:=6) (b:=(ay base).length) rfl rfl<|by refine af aR ?_;exact aU<|Qk i).trans (by(refine af Hx.Ab ?_;refine af jE ?_;refine af aR ?_;exact af i rfl));exact bf<|ae (av (ae (dX (aa rfl) rfl rfl y1) aj)<|W _ _ _ Hx.Ae R)<|ae (av (ae (dX (aa rfl) rfl rfl y2) aj)<|W _ _ _ Hx.Ae R) aj
  show(ak c (.D [.G (.F 44) [.N (.A 3) .J<|.B 6],.G (.F 44) [.N (.A 3) (.B 6) .J]]) _ _).Aa _=_;refine af D ?_;rfl
 have I0:IF K base (k+1) 0 (Lc.Aa (Lc.Aa (Lc.Aa (Lc.Aa (λj=>[V.B 1,.A kd,.A m][j]?) 4<|.B K.length) 3<|.B H.length) 6<|.A<|aQ<|bM 6 12 base) 5<|.A<|aQ<|bM 0 6 base) (Hx K o [] [.A<|ay<|bM 0 6 base,.A<|ay<|bM 6 12 base]) o [.A<|ay<|bM 0 6 base,.A<|ay<|bM 6 12 base] H.length []:=
  ⟨rfl,by refine af (show base++tgB []=base from QF _) ?_;exact l,ZA ‹_›,QC<|amW f,Qk ‹_›,λp m=>(nomatch m),rfl,by
   refine af (show(List.map (λp=>bp<|fB p) ([]:List (Nat×Nat)))=[] from rfl) ?_;refine af g ?_;exact Z.Aa,rfl,rfl,rfl⟩
 obtain⟨l',H',e,o',h,r,d,I,v,E,F⟩:=gR (c:=c) (t:=.A 7) (src:=dO<|.I m) (step:=au c adL) (n:=m)
  (λt n H'=>∃o G r d,IF K base (k+1) t n H' o G r d/\n 1=some (.A kd)/\n 5=some (.A<|aQ<|bM 0 6 base)/\n 6=some (.A<|aQ<|bM 6 12 base)) (λj=>.A j)
  (λt n H1 U z9=>amQ z9 λo G r d I v E F=>by
   refine kg (amv N (ot z f) (Qv ‹_› lb) (aU<|Qa (Zq U) s) i I) λl' J o' h L=>ip L λr' p L=>gx L λe I' q=>?_;exact⟨pn U<|aU s,n.Aa 7<|.A t,H1,l',J,rfl,e,o',h,r',d++[p],I',(q 1 nb lb).trans v,(q 5 nb lb).trans E,(q 6 nb lb).trans F⟩)
  (λn H' _=>nG<|aU s) 1001 0 _ _ (QO _) (Qv ‹_› lb) (anZ _ _ _ _ I0 rfl rfl rfl)
 obtain⟨rfl,M,r1,rk,rb,w,rfl,y,l0,l3,l4⟩:=I;have tl:(tgB d).length=4*d.length:=by
  haveI:=kL (kd:=0) d;rw [←vW,Qi,show(b2 0).length=2 from rfl,ZI 2] at this;exact Nat.add_right_cancel this
 haveI x1:ak c (.M [.E .FloorDiv (.A 1)<|.B 256,.E .Mod (.A 1)<|.B 256]) l' (Hx K o' (d.map λp=>bp<|fB p) h)=.ok (.B (Hx K o' (d.map λp=>bp<|fB p) h).length) (Hx K o' (d.map λp=>bp<|fB p)<|h++[.A<|ay<|b2 kd]):=
  (cV (vs:=[.A (kd/ 256:Nat),.A (kd%256:Nat)])<|ae (aq (aa v) rfl<|eY ⟨dd,lb⟩)<|ae (aq (aa v) rfl<|bL dd) aj).trans (by(refine af Hx.Ab ?_;exact af (vX A) rfl))
 haveI x2:=(jD (Hx.Ah r1 rk M (o':=o') (ws:=d.map λp=>bp<|fB p) (E:=[.A<|ay<|b2 kd])) Hx.Ae<|by(refine af aR ?_;refine af aR ?_;refine af Qi ?_;refine af tl ?_;refine af i ?_);show _+2<=_;exact aU<|Qf (Qf (Qd 12)<|QJ (Qd 4) s)<|Qd 2).trans (by(refine af (Hx.Ab ..) ?_;refine af (kK ..) ?_;refine af (Qn base ..) ?_;exact af (vW ..) rfl));haveI er:ak c (.K "range" [.A 2]) (Lc.Aa (Lc.Aa (Lc.Aa (Lc.Aa (λj=>[V.B 1,.A kd,.A d.length][j]?) 4<|.B K.length) 3<|.B H.length) 6<|.A<|aQ<|bM 6 12 base) 5<|.A<|aQ<|bM 0 6 base) (Hx K o [] [.A<|ay<|bM 0 6 base,.A<|ay<|bM 6 12 base])=.ok (.I d.length) (Hx K o [] [.A<|ay<|bM 0 6 base,.A<|ay<|bM 6 12 base]):=bh (vs:=[.A d.length]) (ae (aa rfl) aj)<|mM<|Qa ‹_› lb;haveI h2:(H.set 1 o'++(O.A (ay base):: .A (d.map λp=>bp<|fB p)::(h++[.A<|ay<|b2 kd]++[.A<|ay<|base++iX kd d])))[(Hx K o' (d.map λp=>bp<|fB p)<|h++[.A<|ay<|b2 kd]).length]?=some (.A<|ay<|base++iX kd d):=by refine cI g ?_;exact Hx.Ae
 haveI h3:(H.set 1 o'++(O.A (ay base):: .A (d.map λp=>bp<|fB p)::(h++[.A<|ay<|b2 kd]++[.A<|ay<|base++iX kd d])))[K.length]?=some (.A<|d.map λp=>bp<|fB p):=by refine cI g ?_;exact Hx.Ad
 refine aoa o' _ (Hx K o' (d.map λp=>bp<|fB p)<|h++[.A<|ay<|b2 kd]).length K.length base d ?_ h2 h3 (by refine af Hx.Ac ?_;exact Qa (ahW f)<|Qa (Nat.le_succ _)<|Qq ..) (ahW f) i rfl w ?_
 ·refine cI g ?_;apply aE (fd:=iH) (vs:=[.B 1,.A kd,.A d.length]) rfl rfl;refine ah s0<|ah s1<|ah (pV er e) ?_;exact aI<|bf<|ae (aq (aa l3) x1 x2)<|ae (bf<|ae (aa E)<|ae (aa F)<|ae (aa l4)<|ae (aa v) aj) aj
 ·rw [g] at y;exact(y.Ad<|by refine af (B ..) ?_;exact z).Ab (by exact af (Zt ..)<|QB (aU<|QB s 1) k)
noncomputable def sO(n a b z u c m st:V):List (Str×V):=[("number",n),("original",a),("reply",b),("zone",z),("until",u),("since",c),("mark",m),("status",st),("state",.A 0),("sides",.C),("master",.A 0)]
def qU(c:CF):Prop:=∀H n a b z,c 64 [n,a,b,z] H=.ok (.B H.length) (H++[.C "Talk"<|sO n a b z (.A 0) (.A 0) (.A 0)<|.A 0])
theorem agI(c:CF):qU (λx=>aM c x):=by
 intro H n a b z;apply se (fd:=rO) (j:=69) (cn:="Talk") (vs:=[.B H.length,n,a,b,z]) rfl rfl rfl rfl;haveI d:jq "Talk"=true:=by decide+kernel
 refine ah (bk (ps:=[]) rfl (aa rfl) rfl d rfl rfl)<|ah (bk (ps:=[_]) rfl (aa rfl) rfl d rfl rfl)<|ah (bk (ps:=[_,_]) rfl (aa rfl) rfl d rfl rfl)<|ah (bk (ps:=[_,_,_]) rfl (aa rfl) rfl d rfl rfl)<|ah (bk (ps:=[_,_,_,_]) rfl rfl rfl d rfl rfl)<|ah (bk (ps:=[_,_,_,_,_]) rfl rfl rfl d rfl rfl)<|ah (bk (ps:=[_,_,_,_,_,_]) rfl rfl rfl d rfl rfl)<|ah (bk (ps:=[_,_,_,_,_,_,_]) rfl rfl rfl d rfl rfl)<|ah (bk (ps:=[_,_,_,_,_,_,_,_]) rfl rfl rfl d rfl rfl)<|ah (bk (ps:=[_,_,_,_,_,_,_,_,_]) rfl rfl rfl d rfl rfl)<|ah (bk (ps:=[_,_,_,_,_,_,_,_,_,_]) rfl rfl rfl d rfl ?_) aV
 kernel_rfl
noncomputable def bq(n:Nat)(a b tk st c fd d:V):List (Str×V):=[("packet",a),("now",b),("hook",.D "input"),("talk",tk),("state",st),("is_reply",c),("talks",.C),("sets",.B<|n+1),("objects",.B<|n+2),("fields",fd),("readers",d),("doers",.B<|n+4),("ops",.B<|n+5),("tools",.B<|n+6),("order",.D "little"),("log",.B<|n+7),("replies",.B<|n+8),("steps",.C),("homes",.B<|n+9)]
noncomputable def bP:O:=.B []<|some 0
def cJ:List O:=[bP,bP,bP,bP,bP,bP,.A [],.A [],bP]
def iW(n:Nat)(a b fd:V)(k j:Nat):List O:=.C "Scene" (mk<|(bq n a b .C (.A 1) (.A 0) fd<|.B<|n+3).take k)::cJ.take j
def nK(c:CF):Prop:=∀H a fd b,c 63 [a,fd,b] H=.ok (.B H.length) (H++(.C "Scene" (bq H.length a b .C (.A 1) (.A 0) fd<|.B<|H.length+3)::cJ))
theorem fb(a:L.length=k)(b:L++[bP]=L'):ak c (.Q [] []) l (H++L)=.ok (.B<|H.length+k) (H++L'):=(show ak c (.Q [] []) l (H++L)=jp bP (H++L) from rfl).trans<|pM a b
theorem yg(a:L.length=k)(b:L++[.A []]=L'):ak c (.M []) l (H++L)=.ok (.B<|H.length+k) (H++L'):=(show ak c (.M []) l (H++L)=jp (.A []) (H++L) from rfl).trans<|pM a b
theorem adN(c:CF):nK (λx=>aM c x):=by
 intro H a fd b;apply se (fd:=oN) (j:=68) (cn:="Scene") (vs:=[.B H.length,a,fd,b,.D "input"]) rfl rfl rfl rfl;haveI d:jq "Scene"=true:=by decide+kernel
 refine ah (bk (H0:=H) (L:=iW H.length a b fd 0 0) (L':=iW H.length a b fd 1 0) (ps:=(bq H.length a b .C (.A 1) (.A 0) fd<|.B<|H.length+3).take 0) rfl (aa rfl) rfl d rfl rfl)<|ah (bk (H0:=H) (L:=iW H.length a b fd 1 0) (L':=iW H.length a b fd 2 0) (ps:=(bq H.length a b .C (.A 1) (.A 0) fd<|.B<|H.length+3).take 1) rfl (aa rfl) rfl d rfl rfl)<|ah (bk (H0:=H) (L:=iW H.length a b fd 2 0) (L':=iW H.length a b fd 3 0) (ps:=(bq H.length a b .C (.A 1) (.A 0) fd<|.B<|H.length+3).take 2) rfl (aa rfl) rfl d rfl rfl)<|ah (bk (H0:=H) (L:=iW H.length a b fd 3 0) (L':=iW H.length a b fd 4 0) (ps:=(bq H.length a b .C (.A 1) (.A 0) fd<|.B<|H.length+3).take 3) rfl rfl rfl d rfl rfl)<|ah (bk (H0:=H) (L:=iW H.length a b fd 4 0) (L':=iW H.length a b fd 5 0) (ps:=(bq H.length a b .C (.A 1) (.A 0) fd<|.B<|H.length+3).take 4) rfl rfl rfl d rfl rfl)<|ah (bk (H0:=H) (L:=iW H.length a b fd 5 0) (L':=iW H.length a b fd 6 0) (ps:=(bq H.length a b .C (.A 1) (.A 0) fd<|.B<|H.length+3).take 5) rfl rfl rfl d rfl rfl)<|ah (bk (H0:=H) (L:=iW H.length a b fd 6 0) (L':=iW H.length a b fd 7 0) (ps:=(bq H.length a b .C (.A 1) (.A 0) fd<|.B<|H.length+3).take 6) rfl rfl rfl d rfl rfl)<|ah (bk (H0:=H) (L:=iW H.length a b fd 7 1) (L':=iW H.length a b fd 8 1) (ps:=(bq H.length a b .C (.A 1) (.A 0) fd<|.B<|H.length+3).take 7) rfl (fb (L:=iW H.length a b fd 7 0) (L':=iW H.length a b fd 7 1) rfl rfl) rfl d rfl rfl)<|ah (bk (H0:=H) (L:=iW H.length a b fd 8 2) (L':=iW H.length a b fd 9 2) (ps:=(bq H.length a b .C (.A 1) (.A 0) fd<|.B<|H.length+3).take 8) rfl (fb (L:=iW H.length a b fd 8 1) (L':=iW H.length a b fd 8 2) rfl rfl) rfl d rfl rfl)<|ah (bk (H0:=H) (L:=iW H.length a b fd 9 2) (L':=iW H.length a b fd 10 2) (ps:=(bq H.length a b .C (.A 1) (.A 0) fd<|.B<|H.length+3).take 9) rfl (aa rfl) rfl d rfl rfl)<|ah (bk (H0:=H) (L:=iW H.length a b fd 10 3) (L':=iW H.length a b fd 11 3) (ps:=(bq H.length a b .C (.A 1) (.A 0) fd<|.B<|H.length+3).take 10) rfl (fb (L:=iW H.length a b fd 10 2) (L':=iW H.length a b fd 10 3) rfl rfl) rfl d rfl rfl)<|ah (bk (H0:=H) (L:=iW H.length a b fd 11 4) (L':=iW H.length a b fd 12 4) (ps:=(bq H.length a b .C (.A 1) (.A 0) fd<|.B<|H.length+3).take 11) rfl (fb (L:=iW H.length a b fd 11 3) (L':=iW H.length a b fd 11 4) rfl rfl) rfl d rfl rfl)<|ah (bk (H0:=H) (L:=iW H.length a b fd 12 5) (L':=iW H.length a b fd 13 5) (ps:=(bq H.length a b .C (.A 1) (.A 0) fd<|.B<|H.length+3).take 12) rfl (fb (L:=iW H.length a b fd 12 4) (L':=iW H.length a b fd 12 5) rfl rfl) rfl d rfl rfl)<|ah (bk (H0:=H) (L:=iW H.length a b fd 13 6) (L':=iW H.length a b fd 14 6) (ps:=(bq H.length a b .C (.A 1) (.A 0) fd<|.B<|H.length+3).take 13) rfl (fb (L:=iW H.length a b fd 13 5) (L':=iW H.length a b fd 13 6) rfl rfl) rfl d rfl rfl)<|ah (bk (H0:=H) (L:=iW H.length a b fd 14 6) (L':=iW H.length a b fd 15 6) (ps:=(bq H.length a b .C (.A 1) (.A 0) fd<|.B<|H.length+3).take 14) rfl rfl rfl d rfl rfl)<|ah (bk (H0:=H) (L:=iW H.length a b fd 15 7) (L':=iW H.length a b fd 16 7) (ps:=(bq H.length a b .C (.A 1) (.A 0) fd<|.B<|H.length+3).take 15) rfl (yg (L:=iW H.length a b fd 15 6) (L':=iW H.length a b fd 15 7) rfl rfl) rfl d rfl rfl)<|ah (bk (H0:=H) (L:=iW H.length a b fd 16 8) (L':=iW H.length a b fd 17 8) (ps:=(bq H.length a b .C (.A 1) (.A 0) fd<|.B<|H.length+3).take 16) rfl (yg (L:=iW H.length a b fd 16 7) (L':=iW H.length a b fd 16 8) rfl rfl) rfl d rfl rfl)<|ah (bk (H0:=H) (L:=iW H.length a b fd 17 8) (L':=iW H.length a b fd 18 8) (ps:=(bq H.length a b .C (.A 1) (.A 0) fd<|.B<|H.length+3).take 17) rfl rfl rfl d rfl rfl)<|ah (bk (H0:=H) (L:=iW H.length a b fd 18 9) (L':=iW H.length a b fd 19 9) (ps:=(bq H.length a b .C (.A 1) (.A 0) fd<|.B<|H.length+3).take 18) rfl (fb (L:=iW H.length a b fd 18 8) (L':=iW H.length a b fd 18 9) rfl rfl) rfl d rfl rfl) ?_;rw [show H++(.C "Scene" (bq H.length a b .C (.A 1) (.A 0) fd<|.B<|H.length+3)::cJ)=H++iW H.length a b fd 19 9 from by kernel_rfl];exact aV
theorem zi{H G a:Hp}(b:1<H.length):(H.set 1 o++G).set 1 o'++a=H.set 1 o'++(G++a):=by
 exact af (fA (by rw [Qo];exact b) ..)<|af (Ze ..)<|af (Qn ..) rfl
theorem kM{A G:Hp}(h:i≠1)(e:A[i]?=some ob):(A.set 1 o++G)[i]?=some ob:=by
 refine af (Qj<|by rw [Qo];exact(Qg.mp e).1) ?_;refine af (QA<|Ne.symm h) ?_;exact e
theorem atL{ob:O}:(A++[ob])[A.length]?=some ob:=bn (k:=0)
noncomputable abbrev ajg:List S:=[.A (.A 3)<|.E .Add (.A 3)<|.M [.E .Mod (.G (.F 41) [.A 0])<|.E .Pow (.B 2)<|.A 2,.E .Mod (.G (.F 41) [.A 0])<|.B 65536]]
theorem ajh{c:CF}(N:dI c){k r w:Nat}(P:fq A k)(B:k<=4000)(j:r≠1)(e:A[r]?=some (.A xs))(m:xs.length<=100)(n:w<4096)(f:l 0=some (.B 1))(p:l 2=some (.A w))(q:l 3=some (.B r)):
 ∃o G b x y,au c ajg l A=.ok (.Aa,l.Aa 3<|.B b) (A.set 1 o++G)/\(A.set 1 o++G)[b]?=some (.A<|xs++[.A x,.A y])/\b≠1/\fq (A.set 1 o++G) (k+2):=by
 haveI C:=P.Ac;refine cM (N A k P<|Qa ‹_› lb) λx1 s t u=>cM (N (A.set 1 s) (k+1) u<|Qv ‹_› lb) λd a g h=>?_;rw [Ze] at g h;haveI v:(0:Int)<2^w:=Int.pow_pos dd;haveI z:ak c (.M [.E .Mod (.G (.F 41) [.A 0])<|.E .Pow (.B 2)<|.A 2,.E .Mod (.G (.F 41) [.A 0])<|.B 65536]) l A=.ok (.B (A.set 1 a).length) (A.set 1 a++[.A [.A<|x1%2^w,.A<|d%65536]]):=
  cV (ae (aq (av (ae (aa f) aj) t) (aq rfl (aa p)<|tZ n)<|bL v)<|ae (aq (av (ae (aa f) aj) g) rfl<|bL dd) aj)
 haveI i:=jD (kM (o:=a) (G:=[.A [.A<|x1%2^w,.A<|d%65536]]) j e) atL (by show _+2<=_;exact aU<|Qf m<|Qd 2);rw [Qn] at i;refine⟨a,_,_,x1%2^w,d%65536,ah (az<|aq (aa q) z i) aV,?_,?_,h.Aa⟩
 ·exact cI (Qn ..) atL
 ·refine af Qi<|af Qo ?_;lia
def qV(c:CF):Prop:=∀H k (b:Nat),fq H k->k<=3000->∃o G a x y z w,c 52 [.B 1,.A b] H=.ok (cX (b,a,x,y,z,w)) (H.set 1 o++G)/\fq (H.set 1 o++G) (k+5)
theorem agJ{c:CF}(N:dI c):qV (λx=>aM c x):=by
 intro H k a P y;have g:=P.Ac;haveI e:∀o:O,(H.set 1 o).length=H.length:=λo=>Qo ..;refine cM (N H k P<|Qa ‹_› lb) λb f z A=>?_;obtain⟨w,i,B⟩:∃w:Nat,w<4096/\ak c (.O (.I .Eq (.A 1)<|.B 10) (.B 128)<|.B 32) (λj=>[V.B 1,.A a][j]?) H=.ok (.A w) H:=by
  by_cases h:a=10
  ·exact bv 128 lb<|cf (am (aa rfl) rfl<|eq_t (n:=10) h) rfl
  ·exact bv 32 lb<|ci (am (aa rfl) rfl<|eq_f (n:=10) h) rfl
 haveI m:ak c (.M [.A 1,.E .Mod (.G (.F 41) [.A 0])<|.B 256]) (Lc.Aa (λj=>[V.B 1,.A a][j]?) 2<|.A w) H=.ok (.B (H.set 1 f).length) (H.set 1 f++[.A [.A a,.A<|b%256]]):=
  cV (ae (aa rfl)<|ae (aq (av (ae (aa rfl) aj) z) rfl<|bL dd) aj)
 rw [e] at m;haveI C:(H.set 1 f++[O.A [.A a,.A<|b%256]])[H.length]?=some (.A [.A a,.A<|b%256]):=by haveI:=atL (A:=H.set 1 f) (ob:=O.A [.A a,.A<|b%256]);rwa [e] at this
 refine amR (ajh N (l:=Lc.Aa (Lc.Aa (Lc.Aa (λj=>[V.B 1,.A a][j]?) 2<|.A w) 3<|.B H.length) 4<|.A (0:Nat)) A.Aa (Qv ‹_› lb) (ZA ‹_›) C (Qy rfl) i rfl rfl rfl) λM Q D n p s1 E F G=>amR (ajh N (l:=Lc.Aa (Lc.Aa (Lc.Aa (Lc.Aa (Lc.Aa (λj=>[V.B 1,.A a][j]?) 2<|.A w) 3<|.B H.length) 4<|.A (0:Nat)) 3<|.B D) 4<|.A (1:Nat)) G (aU<|Qf (Qf y<|Qd 1)<|Qd 2) F E (Qy rfl) i rfl rfl rfl) λI R J q r s t U u=>?_;rw [zi g,zi (G:=_) g] at s t u;rw [zi g] at s1;refine⟨I,_,b%256,n,p,q,r,?_,u.Ab<|Qd _⟩;apply aE (fd:=jy) (vs:=[.B 1,.A a]) rfl rfl;refine ah (az B)<|ah (az m)<|ah (pV (bh (vs:=[.A (2:Nat)]) rfl<|mM lb)<|fH (pn (j:=0) (n:=2) lb lb) rfl s1<|fH (pn (j:=1) (n:=2) lb lb) rfl s<|mK<|nG (n:=2) lb) ?_;haveI d:∀{j:Nat} {v:V} {l:Lc},l 3=some (.B J)->([V.A a,.A<|b%256]++[.A n,.A p]++[.A q,.A r])[j]?=some v->ak c (.H (.A 3)<|.B j) l _=.ok v _:=λK L=>aJ (aa K) rfl<|dw t L<|Qy rfl;exact aI<|bf<|ae (d (j:=0) rfl rfl)<|ae (d (j:=1) rfl rfl)<|ae (d (j:=2) rfl rfl)<|ae (d (j:=3) rfl rfl)<|ae (d (j:=4) rfl rfl)<|ae (d (j:=5) rfl rfl) aj
section
section
variable {c:CF} {l l':Lc} {H H1 H2:Hp} {e i:X} {u v:V} {a cn x:Str} {k:Nat} {fs es:List (Str×V)} {ep:Option Nat} {ts:List T} {vs:List V} {t:T} {r:bJ Lc}
theorem fc(b:ts.length=vs.length)(h:oA c ts vs l H=r):jc c (.D ts) (.F vs) l H=r:=(bT b).trans h
theorem aS(b:jc c t v l H=.ok l' H1)(d:oA c ts vs l' H1=r):oA c (t::ts) (v::vs) l H=r:=by
 show(jc c t v l H).Aa _=_;exact af b d
theorem cZ:oA c [] [] l H=.ok l H:=rfl
theorem lJ(b:ak c e l H=.ok (.B k) H)(d:H[k]?=some (.C cn fs))(f:jq cn=true)(g:fs.length<100)(h:H.set k (.C cn<|bz a u fs)=H2):jc c (.C e a) u l H=.ok l H2:=by
 show(ak c e l H).Aa _=_;refine af b ?_;show(ki (.B k) a u H).Aa _=_;exact af (qW d f g)<|af h rfl
theorem nM(b:ak c e l H=.ok (.B k) H)(d:ak c i l H=.ok (.D x) H)(f:H[k]?=some (.B es ep))(g:es.length<=16777216)(h:H.set k (lP x u es ep)=H2):jc c (.B e i) u l H=.ok l H2:=by
 show(ak c e l H).Aa _=_;refine af b ?_;show(ak c i l H).Aa _=_;refine af d ?_;show(fQ (.B k) (.D x) u H).Aa _=_;exact af (ly f g)<|af h rfl
theorem ano{o o':O}:(A++[o]).set A.length o'=A++[o']:=fO (k:=0)
theorem adP{o o':O}(h:A.length=n):(A++[o]).set n o'=A++[o']:=h ▸ano
theorem abQ{o:O}(h:A.length=n):(A++[o])[n]?=some o:=h ▸atL
end
theorem dF(P:fq H k)(h:aY H v a=some u):aY (H.set 1 o++G) v a=some u:=by
 refine kf (jZ h) λi cn fs b e d=>?_;subst b;have f:i≠1:=λq=>by subst q;refine oq P λ_ _ _ q _=>?_;clear P;rw [e] at q;haveI g:=Qb q;injection g
 exact(aw<|kM f e).trans d
def amw(A:Hp)(n:Nat)(v:V):Prop:=v=.C∨∃(r:Nat) (s1 b:sq) (z u st m:Int),v=.B r/\n<=r/\A[r]?=some (.C "Talk"<|sO (.A 1) (cX s1) (cX b) (.A z) (.A u) (.A 0) (.A m)<|.A st)
def kN(c:CF):Prop:=∀H k sc b,fq H k->k<=2000->aY H sc "now"=some (.A b)->∃o G v,c 58 [.B 1,sc] H=.ok v (H.set 1 o++G)/\fq (H.set 1 o++G) (k+20)/\amw (H.set 1 o++G) H.length v
theorem yh(N:dI c)(S_:qV c)(T_:qU c):kN (λx=>aM c x):=by
 intro H k sc h P L hs;have hn:=P.Ac;have p:∀o:O,(H.set 1 o).length=H.length:=λo=>Qo ..;refine cM (N H k P<|Qa ‹_› lb) λx0 U e0 P0=>aT (dj x0 (m:=7) lb) λf hf qf=>?_;have s0:aN c (.A (.A 2)<|.E .Mod (.G (.F 41) [.A 0])<|.B 7) (λj=>[V.B 1,sc][j]?) H=.ok (.Aa,Lc.Aa (λj=>[V.B 1,sc][j]?) 2<|.A f) (H.set 1 U):=
  az (aq (av (ae (aa rfl) aj) e0) rfl<|(bL (q:=7) dd).trans<|by exact af (show x0%7=(f:Int) from qf) rfl)
 by_cases m:f<2
 ·refine vg U ([]) .C ?_ (by refine af (QF ..) ?_;exact P0.Ab<|Zs lb)<|.inl rfl;refine af (QF ..) ?_;apply aE (fd:=dB) (vs:=[.B 1,sc]) rfl rfl;exact ah s0<|bb<|aK (am (aa rfl) rfl<|abF (n:=2) m)<|aI rfl
 obtain⟨d,en⟩:∃d:Nat,[V.A 2,V.A 10,V.A 2,V.A 10,V.A 3][f - 2]?=some (.A d):=by
  obtain⟨g,rfl⟩:∃g,f=g+2:=⟨f - 2,(Nat.sub_add_cancel<|QH.mp m).symm⟩;rcases g with _|_|_|_|_|g
  ·exact⟨2,rfl⟩
  ·exact⟨10,rfl⟩
  ·exact⟨2,rfl⟩
  ·exact⟨10,rfl⟩
  ·exact⟨3,rfl⟩
  ·exact absurd hf<|QH.mpr<|Nat.le_add_left 7 g
 refine amT (S_ _ _ d P0<|Qv ‹_› lb) λo1 W q s w y z e1 P1=>amT (S_ _ _ d P1<|aU<|Qf (Qf L<|Qd 1)<|Qd 5) λo2 Y B C D E F M Q=>?_;rw [zi<|by refine af (p ..) ?_;exact hn,Ze] at M Q;rw [Ze] at e1 M;generalize hA:H.set 1 o2++(W++Y)=A at M Q;have G:1<A.length:=Q.Ac;have n:∀(o:O),A.set 1 o=H.set 1 o++(W++Y):=λo=>by(refine cI (hA ..) ?_;refine af (fA (by rw [p];exact hn) ..) ?_;exact af (Ze ..) rfl)
 have Z:H.length<=A.length:=by(refine cI (hA ..)<|af (Qi ..)<|af (p ..) ?_);exact Qq _ _
 have b:∀o:O,(A.set 1 o).length=A.length:=λo=>Qo ..;refine cM (N A _ Q<|aU<|Qf (Qf (Qf L<|Qd 1)<|Qd 5)<|Qd 5) λI o3 e3 P3=>?_;haveI T1:=T_ (A.set 1 o3) (.A 1) (cX (d,q,s,w,y,z)) (cX (d,B,C,D,E,F))<|.A<|I%65536;rw [b] at T1;have hB:∀{o o' t:O},(A.set 1 o++[t]).set 1 o'=A.set 1 o'++[t]:=λ{o o' t}=>by(exact af (fA (by rw [b];exact G) ..)<|af (Ze ..) rfl)
 refine cM (N (A.set 1 o3++[.C "Talk"<|sO (.A 1) (cX (d,q,s,w,y,z)) (cX (d,B,C,D,E,F)) (.A<|I%65536) (.A 0) (.A 0) (.A 0)<|.A 0]) _ P3.Aa<|aU<|Zo L 12) λR o4 e4 P4=>?_;rw [hB] at e4 P4;refine cM (N (A.set 1 o4++[.C "Talk"<|sO (.A 1) (cX (d,q,s,w,y,z)) (cX (d,B,C,D,E,F)) (.A<|I%65536) (.A<|h - 3+R%9) (.A 0) (.A 0)<|.A 0]) _ (P4.Ad<|by refine af (b ..) ?_;exact G).Aa<|aU<|Zo L 13) λx5 o5 e5 P5=>?_;rw [hB] at e5 P5;refine cM (N (A.set 1 o5++[.C "Talk"<|sO (.A 1) (cX (d,q,s,w,y,z)) (cX (d,B,C,D,E,F)) (.A<|I%65536) (.A<|h - 3+R%9) (.A 0) (.A 0)<|.A 0]) _ P5<|aU<|Zo L 14) λx6 J e6 P6=>?_;rw [hB] at e6 P6;haveI K:jq "Talk"=true:=by decide+kernel
 haveI a5:aY (A.set 1 o3++[.C "Talk"<|sO (.A 1) (cX (d,q,s,w,y,z)) (cX (d,B,C,D,E,F)) (.A<|I%65536) (.A 0) (.A 0) (.A 0)<|.A 0]) sc "now"=some (.A h):=by
  exact af (n ..)<|af (Qn ..)<|dF P hs
 refine vg J ((W++Y)++[.C "Talk"<|sO (.A 1) (cX (d,q,s,w,y,z)) (cX (d,B,C,D,E,F)) (.A<|I%65536) (.A<|h - 3+R%9) (.A 0) (.A<|x6%4294967296)<|.A<|x5%1024]) (.B A.length) ?_ ?_ ?_
 ·refine cI (Qn (H.set 1 J) ..)<|cI (n ..) ?_;apply aE (fd:=dB) (vs:=[.B 1,sc]) rfl rfl;exact ah s0<|ah (aH<|am (aa rfl) rfl<|vk (n:=2)<|QW m)<|ah (az<|aJ (x:=.F [.A 2,.A 10,.A 2,.A 10,.A 3]) rfl (aq (y:=.A 2) (aa rfl) rfl (show mq .Sub (.A f) (.A 2) (H.set 1 U)=.ok (.A (f - 2:Nat)) _ from by show bJ.ok (V.A<|(f:Int) - 2) _=_;exact af (show(f:Int) - 2=((f - 2:Nat):Int) from aod (b:=2)<|QH.mp m) rfl))<|gV en lb)<|ah (az<|av (ae rfl<|ae (av (ae (aa rfl)<|ae (aa rfl) aj) e1)<|ae (av (ae (aa rfl)<|ae (aa rfl) aj) M)<|ae (aq (av (ae (aa rfl) aj) e3) rfl<|bL (q:=65536) dd) aj) T1)<|ah (cm (aq (aq (bB (aa rfl) a5) rfl rfl) (aq (av (ae (aa rfl) aj) e4) rfl<|bL (q:=9) dd) rfl)<|lJ (aa rfl) (abQ<|b o4) K (Ql rfl)<|adP<|b o4)<|ah (cm (bf<|ae (aq (av (ae (aa rfl) aj) e5) rfl<|bL (q:=1024) dd)<|ae (aq (av (ae (aa rfl) aj) e6) (aq rfl rfl<|tZ (q:=32) lb)<|bL dd) aj)<|fc rfl<|aS (lJ (aa rfl) (abQ<|b J) K (Ql rfl)<|adP<|b J)<|aS (lJ (aa rfl) (abQ<|b J) K (Ql rfl)<|adP<|b J) cZ)<|aI<|aa rfl
 ·exact cI (Qn ..)<|cI (n ..)<|(P6.Ad<|by refine af (b ..) ?_;exact G).Aa.Ab<|afx (a:=k) (d:=15) (c:=20)
 ·refine .inr<|⟨A.length,(d,q,s,w,y,z),(d,B,C,D,E,F),I%65536,h - 3+R%9,x5%1024,x6%4294967296,rfl,Z,?_⟩;exact cI (Qn ..)<|cI (n ..)<|abQ<|b J
end
section
section
variable {H:Hp} {i j:Nat} {es l r:List (Str×V)} {ep ep':Option Nat} {x:Str} {v:V}
theorem jF(h:H[i]?=some (.B es ep))(a:aB x es=some v):nZ (.B i) (.D x) H=.ok v H:=by
 show(bX i H).Aa _=_;refine af (bO h) ?_;show cs (aB x es) AM.Ab H=_;exact af a rfl
theorem agK(c:H[i]?=some (.B l ep))(d:H[j]?=some (.B r ep'))(e:l.length=r.length)(f:rF H r l=some b):eO .NotEq (.B i) (.B j) H=.ok (.E<|!b) H:=by
 haveI g:fN H (.B i)=some l:=by show(Option.elim H[i]? none λa=>oC none a (dict:=λl _=>some l))=_;exact af c rfl
 haveI h:fN H (.B j)=some r:=by show(Option.elim H[j]? none λa=>oC none a (dict:=λl _=>some l))=_;exact af d rfl
 show zB ((Option.elim (fN H<|.B i) (eqP H (.B i)<|.B j) λl=>Option.elim (fN H<|.B j) (eqP H (.B i)<|.B j) λr=>if l.length=r.length then rF H r l else some false).map (!·)) H=_;refine af g<|af h ?_;show zB ((if l.length=r.length then rF H r l else some false).map (!·)) H=_;exact af (Qh e)<|af f rfl
theorem adQ:vi x l=(l.map Prod.fst).any (·==x):=by unfold vi;exact af List.any_map rfl
theorem yi{l:List (Str×V)}:vi x l=true->(bz x v l).map Prod.fst=l.map Prod.fst:=by
 induction l with
 |nil=>intro h;injection h
 |cons u r a=>
  intro h;show List.map Prod.fst (if u.1=x then(u.1,v)::r else u::bz x v r)=_
  by_cases e:u.1=x
  ·exact af (Qh e) rfl
  ·rw [Qe e,Zu,Zu,a];haveI:((u.1 ==x)||vi x r)=true:=h
   rwa [lx e,Bool.false_or] at this
theorem aaA{l:List (Str×V)}:p∈bz x v l->p∈l∨p.2=v:=by
 induction l with
 |nil=>intro h;rcases QM.mp h with rfl;exact .inr rfl
 |cons u r a=>
  intro h;haveI h:p∈(if u.1=x then(u.1,v)::r else u::bz x v r):=h
  by_cases e:u.1=x
  ·rw [Qh e] at h;rcases Qz.mp h with rfl|h
   ·exact .inr rfl
   ·exact .inl<|.tail _ h
  ·rw [Qe e] at h;rcases Qz.mp h with rfl|h
   ·exact .inl<|.head _
   ·rcases a h with h|h
    ·exact .inl<|.tail _ h
    ·exact .inr h
theorem dZ(h:aY H v a=some u)(b:∀cn fs,H[k]?≠some (.C cn fs)):aY (H.set k o) v a=some u:=by
 refine kf (jZ h) λi cn fs c e d=>?_;subst c;have f:k≠i:=λq=>b cn fs<|q ▸e;exact(aw<|(QA f).trans e).trans d
end
noncomputable def K9:List Str:=["mark","priority","iif","oif","iifname","oifname","pkttype","iiftype","oiftype"]
def Mk9(M:List (Str×V)):Prop:=M.map Prod.fst=K9/\∀p∈M,∃i,p.2=.A i
noncomputable def ft:List (Str×V):=[("mark",.A 0),("priority",.A 0),("iif",.A 0),("oif",.A 0),("iifname",.A 0),("oifname",.A 0),("pkttype",.A 0),("iiftype",.A 1),("oiftype",.A 1)]
theorem yj:eT=.B ft (some 9):=by kernel_rfl
theorem Mk9.Aa(h:Mk9 M)(a:x∈K9):vi x M=true:=by
 exact af adQ<|af h.1<|List.any_eq_true.mpr<|bv x a<|iZ rfl
theorem Mk9.Ab(h:Mk9 M)(a:x∈K9)(i:Int):Mk9 (bz x (.A i) M):=
 ⟨(yi<|h.Aa a).trans h.1,λp m=>by rcases aaA m with m|m;exact h.2 p m;exact⟨i,m⟩⟩
noncomputable abbrev adR:List S:=[.J 4 .Add<|.B 1,.C (.I .Eq (.E .Mod (.E .FloorDiv (.A 3)<|.E .Pow (.B 2)<|.A 4)<|.B 2)<|.B 1) [.A (.B (.A 2)<|.A 5)<|.E .Add (.E .Mod (.A 3)<|.B 997)<|.A 4,.A (.B (.L (.A 1) "meta")<|.A 5)<|.H (.A 2)<|.A 5] []]
theorem qX(h:vi x l=true):lP x v l ep=.B (bz x v l) ep:=by unfold lP;exact af h rfl
theorem amx{X_:Hp}{n a p:Nat}{l:Lc}(w:X_.length=n)(e:a<n)(P:p<100)(d:Mk9 M)(f:x∈K9)(D:l 1=some E)(z:l 2=some (.B n))(A:l 3=some (.A y))(F:l 4=some (.A p))(g:∀G I,aY (X_.set a (.B G ep)++[.B I none]) E "meta"=some (.B a)):
 ∃h l',au c adR (l.Aa 5<|.D x) (X_.set a (.B M ep)++[.B M none])=.ok (.Aa,l') (X_.set a (.B h ep)++[.B h none])/\Mk9 h/\l' 4=some (.A (p+1:Nat))/\∀j,j≠4->j≠5->l' j=l j:=by
 have hs:∀o:O,(X_.set a o).length=n:=λo=>(Qo ..).trans w;have b:∀j,j≠4->j≠5->((l.Aa 5<|.D x).Aa 4<|.A (p+1:Nat)) j=l j:=λj J K=>by
  show(if j=4 then _ else if j=5 then _ else l j)=_;exact af (Qe J)<|af (Qe K) rfl
 have s1:aN c (.J 4 .Add<|.B 1) (l.Aa 5<|.D x) (X_.set a (.B M ep)++[.B M none])=.ok (.Aa,(l.Aa 5<|.D x).Aa 4<|.A (p+1:Nat)) (X_.set a (.B M ep)++[.B M none]):=xU (show(l.Aa 5 _) 4=_ from F) rfl rfl;haveI L:(2:Int)^(p+1)=((2^(p+1):Nat):Int):=(Int.natCast_pow 2<|p+1).symm;haveI m:Builtin.Int.intBits ((2^(p+1):Nat):Int)<=8000:=Qa (pU<|Nat.pow_lt_pow_right lb<|Nat.lt_succ_self _)<|Qv ‹_› lb;have B:∀k:Bool,decide (y/ 2^(p+1)%2=1)=k->bj c (.I .Eq (.E .Mod (.E .FloorDiv (.A 3)<|.E .Pow (.B 2)<|.A 4)<|.B 2)<|.B 1) ((l.Aa 5<|.D x).Aa 4<|.A (p+1:Nat)) (X_.set a (.B M ep)++[.B M none])=.ok k (X_.set a (.B M ep)++[.B M none]):=λk N=>
  am (aq (aq (aa<|(b 3 nb nb).trans A) (aq rfl (aa rfl)<|tZ<|Qv ‹_› lb)<|eY ⟨Int.pow_pos dd,by exact af L m⟩) rfl<|bL dd) rfl (dC N)
 by_cases C:y/ 2^(p+1)%2=1
 ·haveI q:(X_.set a (.B M ep)++[O.B M none])[n]?=some (.B M none):=abQ<|hs _;have s:aN c (.A (.B (.A 2)<|.A 5)<|.E .Add (.E .Mod (.A 3)<|.B 997)<|.A 4) ((l.Aa 5<|.D x).Aa 4<|.A (p+1:Nat)) (X_.set a (.B M ep)++[.B M none])=.ok (.Aa,(l.Aa 5<|.D x).Aa 4<|.A (p+1:Nat)) (X_.set a (.B M ep)++[.B (bz x (.A<|y%997+(p+1:Nat)) M) none]):=
   cm (aq (aq (aa<|(b 3 nb nb).trans A) rfl<|bL dd) (aa rfl) rfl) (nM (aa<|(b 2 nb nb).trans z) (aa rfl) q (by haveI:=Qt List.length d.1;rw [QU] at this;refine af this ?_;decide)<|by exact af (qX<|d.Aa f)<|adP<|hs _)
  haveI t:(X_.set a (.B M ep)++[O.B (bz x (.A<|y%997+(p+1:Nat)) M) none])[a]?=some (.B M ep):=by
   refine af (Qj<|by rw [hs];exact e) ?_;exact QX<|Qr e<|Qk<|QR w
  haveI u:aN c (.A (.B (.L (.A 1) "meta")<|.A 5)<|.H (.A 2)<|.A 5) ((l.Aa 5<|.D x).Aa 4<|.A (p+1:Nat)) (X_.set a (.B M ep)++[.B (bz x (.A<|y%997+(p+1:Nat)) M) none])=.ok (.Aa,(l.Aa 5<|.D x).Aa 4<|.A (p+1:Nat)) (X_.set a (.B (bz x (.A<|y%997+(p+1:Nat)) M) ep)++[.B (bz x (.A<|y%997+(p+1:Nat)) M) none]):=
   cm (aJ (aa<|(b 2 nb nb).trans z) (aa rfl)<|jF (abQ<|hs _)<|gC M) (nM (bB (aa<|(b 1 nb nb).trans D)<|g _ _) (aa rfl) t (by haveI:=Qt List.length d.1;rw [QU] at this;refine af this ?_;decide)<|by(exact af (qX (d.Aa f) ..)<|af (List.set_append_left _ _ (by rw [hs];exact e) ..)<|af (Ze ..) rfl))
  exact wc _ _ (ah s1<|ah (aK (B true<|dh C)<|ah s<|ah u aV) aV) (d.Ab f _) rfl b
 ·exact wc M _ (ah s1<|ah (aH<|B false<|cy C) aV) d rfl b
def nN(c:CF):Prop:=∀H k b (a:Nat),fq H k->k<=2900->aY H b "meta"=some (.B a)->H[a]?=some eT->∃o M,c 57 [.B 1,b] H=.ok (.B H.length) ((H.set 1 o).set a (.B M<|some 9)++[.B M none])/\Mk9 M/\fq (H.set 1 o) (k+1)
theorem adS(N:dI c):nN (λx=>aM c x):=by
 intro H k w f P hk E a;haveI J:=P.Ac;have b:∀o:O,(H.set 1 o).length=H.length:=λo=>Qo ..;rw [yj] at a;have n:f≠1:=λq=>by subst q;refine oq P λ_ _ _ q _=>?_;clear P;rw [a] at q;injection q with z2;injection z2
 have s:f<H.length:=(Qg.mp a).1;refine cM (N (H++[.B ft none]) k P.Aa<|Qa ‹_› lb) λy o e C=>?_;rw [fA J] at e C;haveI C:=C.Ad (by exact af (b ..) J);have z:(H.set 1 o).set f (.B ft<|some 9)=H.set 1 o:=by
  apply List.ext_getElem?;intro i
  by_cases h:f=i
  ·subst h;refine af (QX<|by rw [b];exact s) ?_;refine af (QA<|Ne.symm n) ?_;exact af a rfl
  ·exact af (QA h) rfl
 have A:∀K L,aY ((H.set 1 o).set f (.B K<|some 9)++[.B L none]) w "meta"=some (.B f):=λK L=>by
  refine aW<|dZ (dZ E λcn fs q=>?_) λcn fs q=>?_
  ·refine oq P λ_ _ _ Y _=>?_;clear P;rw [Y] at q;haveI Z:=Qb q;injection Z
  ·rw [QA<|Ne.symm n,a] at q;haveI z4:=Qb q;injection z4
 haveI M0:Mk9 ft:=⟨rfl,λp m=>by
  haveI:ft.all (λp=>match p.2 with| .A _=>true|_=>false)=true:=rfl;haveI:=Qx.mp this p m;revert this
  cases p.2<;>intro h<;>first|exact⟨_,rfl⟩|injection h⟩
 haveI e0:ak c (.Q ["mark","priority","iif","oif","iifname","oifname","pkttype","iiftype","oiftype"] [.B 0,.B 0,.B 0,.B 0,.B 0,.B 0,.B 0,.B 1,.B 1]) (λj=>[V.B 1,w][j]?) H=.ok (.B H.length) (H++[.B ft none]):=(nD (vs:=[.A 0,.A 0,.A 0,.A 0,.A 0,.A 0,.A 0,.A 1,.A 1]) rfl).trans<|Qt (λd=>bJ.ok (V.B H.length)<|H++[O.B d none]) (show aZ (List.zip _ _) []=ft from by kernel_rfl);obtain⟨l',H',e1,M,p1,p2,Q⟩:=gR (c:=c) (t:=.A 5) (src:=dO<|.F<|K9.map V.D) (step:=au c adR) (n:=9)
  (λt u H'=>∃M,H'=(H.set 1 o).set f (.B M<|some 9)++[.B M none]/\Mk9 M/\u 4=some (.A (t:Nat))/\u 1=some w/\u 2=some (.B H.length)/\u 3=some (.A y)) (λj=>.D<|K9[j]?.getD "")
  (λt u H1 D z9=>amP z9 λM hH hM l4 R U W=>by
   subst hH;have B:K9[t]?=some (K9[t]'D):=Qw D;refine zd (amx (c:=c) (b o) s (p:=t) (Qr ‹_› lb) hM (List.getElem_mem D) R U W l4 A) λM' l' e F q4 G=>⟨?_,u.Aa 5<|.D<|K9[t]'D,_,l',_,?_,e,M',rfl,F,q4,(G 1 nb nb).trans R,(G 2 nb nb).trans U,(G 3 nb nb).trans W⟩
   ·show bJ.ok (K9.map V.D)[t]? _=_;refine af (QD) ?_;exact af B rfl
   ·exact af B rfl)
  (λu H' _=>rfl) 1001 0 (Lc.Aa (Lc.Aa (Lc.Aa (λj=>[V.B 1,w][j]?) 2<|.B H.length) 3<|.A y) 4<|.A (0:Nat)) (H.set 1 o++[.B ft none]) (QO _) lb (⟨ft,by exact af z rfl,M0,rfl,rfl,rfl,rfl⟩)
 refine acu (⟨p2,Q⟩:_/\_) λQ p4 p5 p6 p7=>?_;subst p1;refine qe o M ?_ p2 C;haveI I:(H.set 1 o++[O.B ft none])[f]?=some (.B ft<|some 9):=by(refine af (Qj<|by rw [b];exact s) ?_;refine af (QA<|Ne.symm n) ?_);exact a
 haveI g:=A ft ft;rw [z] at g;apply aE (fd:=iI) (vs:=[.B 1,w]) rfl rfl;refine ah (az e0)<|ah (az<|av (ae (aa rfl) aj) e) ?_;refine ah (aH<|am (bB (aa rfl) g) (aa rfl)<|agK (b:=true) I (abQ<|b o) rfl rfl)<|ah (az rfl)<|ah (eF (v:=.F<|K9.map V.D) rfl e1) ?_;exact aI<|aa p6
end
noncomputable abbrev WT:=Str×Nat
noncomputable def eg(w:WT):V:=.F [.D w.1,.A w.2]
noncomputable def fg:List (List WT):=[[("type",8),("code",8),("checksum",16),("id",16),("sequence",16)],
 [("daddr",48),("saddr",48),("type",16)],
 [(".",112),("pcp",3),("dei",1),("id",12),("type",16)],
 [("htype",16),("ptype",16),("hlen",8),("plen",8),("operation",16),("saddr ether",48),("saddr ip",32),("daddr ether",48),("daddr ip",32)],
 [("version",4),("hdrlength",4),("dscp",6),("ecn",2),("length",16),("id",16),("frag-off",16),("ttl",8),("protocol",8),("checksum",16),("saddr",32),("daddr",32)],
 [("version",4),("dscp",6),("ecn",2),("flowlabel",20),("length",16),("nexthdr",8),("hoplimit",8),("saddr",128),("daddr",128)],
 [("sport",16),("dport",16),("sequence",32),("ackseq",32),("doff",4),("reserved",4),("flags",8),("window",16),("checksum",16),("urgptr",16)],
 [("sport",16),("dport",16),("length",16),("checksum",16)],
 [("sport",16),("dport",16)],
 [(".",32),("gateway",32)],
 [(".",48),("mtu",16)],
 [(".",32),("mtu",32)]]
noncomputable def fh:List (Str×Str×Nat):=[("ether","link",1),("vlan","link",2),("arp","network",3),("ip","network",4),("ip6","network",5),("tcp","transport",6),("udp","transport",7),("th","transport",8),("icmp","transport",0),("icmp","transport",9),("icmp","transport",10),("icmpv6","transport",0),("icmpv6","transport",11)]
def dJ:List O:=fg.map λw=>.A<|w.map eg
noncomputable def qv(n:Nat)(h:Str×Str×Nat):V:=.F [.D h.1,.D h.2.1,.B<|n+h.2.2]
def nO(c:CF):Prop:=∀H,c 43 [] H=.ok (.B<|H.length+12) (H++(dJ++[.A<|fh.map<|qv H.length]))
theorem abR(a:bK c es l (H++L)=.ok vs (H++L))(b:L.length=k)(d:L++[.A vs]=L'):ak c (.M es) l (H++L)=.ok (.B<|H.length+k) (H++L'):=(cV a).trans<|pM b d
theorem adT(c:CF):nO (λx=>aM c x):=by
 intro H;have w:∀{l:Lc} {es:List X} (j:Nat),(∀H,bK c es l H=.ok (((fg[j]?).getD []).map eg) H)->dJ.take j++[.A<|((fg[j]?).getD []).map eg]=dJ.take (j+1)->(dJ.take j).length=j->ak c (.M es) l (H++dJ.take j)=.ok (.B<|H.length+j) (H++dJ.take (j+1)):=λj k f g=>abR (k _) g f;haveI a:∀{l:Lc} {p b:Str} {i j j':Nat} {e:X} {es:List X} {vs:List V} {d:Hp},ak c e l (H++dJ.take j)=.ok (.B<|H.length+i) (H++dJ.take j')->bK c es l (H++dJ.take j')=.ok vs d->bK c (.D [.C p,.C b,e]::es) l (H++dJ.take j)=.ok (qv H.length (p,b,i)::vs) d:=λf g=>ae (bf<|ae rfl<|ae rfl<|ae f aj) g;apply aE (fd:=iF) (vs:=[]) rfl rfl;haveI h:=w (l:=λj=>([]:List V)[j]?) (es:=[.D [.C "type",.B 8],.D [.C "code",.B 8],.D [.C "checksum",.B 16],.D [.C "id",.B 16],.D [.C "sequence",.B 16]]) 0 (λ_=>rfl) rfl rfl;rw [show H++dJ.take 0=H from QF _] at h;refine ah (az h) ?_;haveI q:H++(dJ++[O.A<|fh.map<|qv H.length])=(H++dJ.take 12)++[O.A<|fh.map<|qv H.length]:=by exact af (Qn ..) rfl
 refine af q<|aI<|(cV (H1:=H++dJ.take 12) (vs:=fh.map<|qv H.length) ?_).trans (by exact af (show(H++dJ.take 12).length=H.length+12 from Qi ..) rfl);exact a (w 1 (λ_=>rfl) rfl rfl)<|a (w 2 (λ_=>rfl) rfl rfl)<|a (w 3 (λ_=>rfl) rfl rfl)<|a (w 4 (λ_=>rfl) rfl rfl)<|a (w 5 (λ_=>rfl) rfl rfl)<|a (w 6 (λ_=>rfl) rfl rfl)<|a (w 7 (λ_=>rfl) rfl rfl)<|a (w 8 (λ_=>rfl) rfl rfl)<|a (j:=9) (j':=9) (i:=0) (aa rfl)<|a (w 9 (λ_=>rfl) rfl rfl)<|a (w 10 (λ_=>rfl) rfl rfl)<|a (j:=11) (j':=11) (i:=0) (aa rfl)<|a (w 11 (λ_=>rfl) rfl rfl) aj
section
theorem il{step:Lc->AM (Fl×Lc)}(R:List s->Lc->Hp->Prop)
 (f:∀k l H r,R r l H->src k H=.ok (full[k]?.map item) H)
 (hs:∀x r l H,x∈full->R (x::r) l H->∃o H1 i j,jc c t (item x) l H=.ok o H1/\step o H1=.ok (.Aa,i) j/\R r i j):
 ∀(r d:List s) (l:Lc) (H:Hp) (n:Nat),full=d++r->r.length<n->R r l H->∃l' H',jK c t src step n d.length l H=.ok (.Aa,l') H'/\R [] l' H':=by
 intro r
 induction r with
 |nil=>
  intro d l H n e h g;obtain⟨n,rfl⟩:∃m,n=m+1:=⟨n - 1,by haveI:0<n:=h;exact acx this⟩;refine qc l H (mK ?_) g;refine af (f _ _ _ _ g ..)<|af (e ..)<|af (QF ..)<|af (List.getElem?_eq_none (Qd _) ..) ?_;rfl
 |cons x r u=>
  intro d l H n e h g;obtain⟨n,rfl⟩:∃m,n=m+1:=⟨n - 1,by haveI:r.length+1<n:=h;exact acx this⟩;refine kg (hs x r l H (by refine af e ?_;exact List.mem_append_right _<|.head _) g) λo H1 i j v=>gx v λw y p=>?_;refine cM (u (d++[x]) i j n (by refine af (Qn ..) ?_;exact e) (Nat.lt_of_succ_lt_succ h) p) λl' H' q z=>?_;rw [Qi] at q;refine qc l' H' (fH (v:=item x) ?_ w y q) z;refine af (f _ _ _ _ g ..)<|af (e ..)<|af (QE (Qd _) ..) ?_;exact af (Nat.sub_self ..) rfl
theorem aji(h:decide (q<=p)=k):eO .GtE (.A p) (.A q) H=.ok (.E k) H:=by subst h;rfl
noncomputable def Y2(X_:Hp)(a b:Nat)(D S_:DP):Hp:=(X_.set a D.o).set b S_.o
section
variable {X_:Hp} {a b:Nat} {D S_ D':DP}
theorem Y2.Ac(h:a≠b)(c:a<X_.length):(Y2 X_ a b D S_)[a]?=some D.o:=by unfold Y2;refine af (QA<|Ne.symm h) ?_;exact QX c
theorem Y2.Ag(c:b<X_.length):(Y2 X_ a b D S_)[b]?=some S_.o:=QX (by exact af Qo c)
theorem Y2.Aa(c:a≠i)(d:b≠i):(Y2 X_ a b D S_)[i]?=X_[i]?:=by unfold Y2;refine af (QA d) ?_;exact af (QA c) rfl
theorem Y2.Ab(h:a≠b):(Y2 X_ a b D S_).set a D'.o=Y2 X_ a b D' S_:=by unfold Y2;exact af (List.set_comm _ _ (Ne.symm h) ..)<|af (Ze ..) rfl
theorem Y2.Af:(Y2 X_ a b D S_).set b D'.o=Y2 X_ a b D D':=Ze ..
theorem yk(h:a≠b)(d:a<X_.length)(f:b<X_.length)(g:l i=some (.B a))(j:l k=some (.B b))(m:D.1.length<=1000)(n:S_.1.length<=1000)
 (o:ak c e l H0=.ok (.F [u,v]) (Y2 X_ a b D S_))(p:ak c q l (Y2 X_ a b D S_)=.ok (.D x) (Y2 X_ a b D S_))(r:ak c s l (Y2 X_ a b (D.Aa x u) S_)=.ok (.D x) (Y2 X_ a b (D.Aa x u) S_)):
 aN c (.A (.D [.B (.A i) q,.B (.A k) s]) e) l H0=.ok (.Aa,l) (Y2 X_ a b (D.Aa x u)<|S_.Aa x v):=
 cm o (fc rfl<|aS (nM (aa g) p (Y2.Ac h d) (Qa m lb)<|Y2.Ab (D':=D.Aa x u) h)<|aS (nM (aa j) r (Y2.Ag f) (Qa n lb)<|Y2.Af (D':=S_.Aa x v)) cZ)
end
structure qi where
 Ab:Str
 Ad:Str
 Af:Str
 Ae:Nat
 Ac:Nat
def qi.Aa(e:qi):Str:=e.Ab++" "++e.Af
noncomputable def szE(a m:Nat):V:=.A<|((a:Int)+m - 1)/ 8 - (a:Int)/ 8+1
noncomputable def nP(c base:Str):Nat->List WT->List qi
 |_,[]=>[]
 |a,w::r=>(if w.1="." then [] else [⟨c,base,w.1,a,w.2⟩])++nP c base (a+w.2) r
structure lK where
 Ac:Nat
 Aa:Nat
 Ab:Option Nat
def lK.v(d:lK):V:=.F [.A d.Ac,.A d.Aa,qY d.Ab]
def jW(c:Bool)(d:lK)(a m:Nat):V:=match d.Ab with
 |some g=>if c=true/\g+a+m<=d.Aa then .A ((d.Ac/ 2^(d.Aa - (g+a+m))%2^m:Nat)) else .C
 |none=>.C
noncomputable abbrev sP:List S:=[.A (.A 13)<|.E .Add (.E .Add (.A 9)<|.A 10)<|.A 12,.C (.I .NotEq (.A 11)<|.C ".") [.G [14,15]<|.D [.E .Add (.E .Add (.A 4)<|.C " ")<|.A 11,.J],.C (.P true [.H (.A 2)<|.A 4,.I .GtE (.A 9)<|.B 0,.I .LtE (.A 13)<|.A 8]) [.A (.A 15)<|.E .Mod (.E .FloorDiv (.A 7)<|.E .Pow (.B 2)<|.E .Sub (.A 8)<|.A 13)<|.E .Pow (.B 2)<|.A 12] [],.A (.D [.B (.A 0)<|.A 14,.B (.A 1)<|.A 14])<|.D [.A 15,.E .Add (.E .Sub (.E .FloorDiv (.E .Sub (.E .Add (.A 10)<|.A 12)<|.B 1)<|.B 8)<|.E .FloorDiv (.A 10)<|.B 8)<|.B 1]] [],.J 10 .Add<|.A 12]
noncomputable def pv(w:WT):Bool:=PyData.strOk w.1&&decide (w.1.length<=100)&&decide (w.2<=1000)
theorem ajj(k:d.Aa<=4000)(o:d.Ab=some g)(f:h=true)(t:m<=1000)(e:g+a+m<=d.Aa)(p:l 7=some (.A d.Ac))(q:l 8=some (.A d.Aa))(i:l 12=some (.A m))(j:l 13=some (.A (g+a+m:Nat))):
 ak c (.E .Mod (.E .FloorDiv (.A 7)<|.E .Pow (.B 2)<|.E .Sub (.A 8)<|.A 13)<|.E .Pow (.B 2)<|.A 12) l H=.ok (jW h d a m) H:=by
 haveI r:∀n:Nat,(2:Int)^n=((2^n:Nat):Int):=λn=>(Int.natCast_pow 2 n).symm;haveI s:jW h d a m=.A ((d.Ac:Int)/ 2^(d.Aa - (g+a+m))%2^m):=by
  unfold jW;refine af o ?_;show(if h=true/\g+a+m<=d.Aa then _ else _)=_;exact af (Qh ⟨f,e⟩ ..)<|af (Int.natCast_emod ..)<|af (Int.natCast_ediv ..)<|af (Int.natCast_pow ..)<|af (Int.natCast_pow ..) rfl
 refine af s<|aq (aq (aa p) (aq (y:=.A (d.Aa - (g+a+m):Nat)) rfl (aq (aa q) (aa j) (show bJ.ok (V.A<|(d.Aa:Int) - (g+a+m:Nat)) H=_ from by exact af (show(d.Aa:Int) - (g+a+m:Nat)=((d.Aa - (g+a+m):Nat):Int) from(Int.ofNat_sub e).symm) rfl))<|tZ<|Qv (Nat.sub_le ..)<|eJ k)<|eY ⟨Int.pow_pos dd,?_⟩) (aq rfl (aa i)<|tZ<|Qv ‹_› lb)<|bL<|Int.pow_pos dd;exact af (r ..)<|Qa (pU<|Nat.pow_lt_pow_right lb<|Nat.lt_succ_self _)<|Nat.succ_le_of_lt<|Qv (Nat.sub_le ..)<|eJ k
end
theorem lL{p q:Str}:(p++q).length=p.length+q.length:=Array.size_append ..
theorem abS{c:CF}(a:p.length<=100)(b:w.length<=100)(d:l i=some (.D p))(e:l j=some (.D w)):ak c (.E .Add (.E .Add (.A i)<|.C " ")<|.A j) l H=.ok (.D<|p++" "++w) H:=
 aq (aq (aa d) rfl<|gB<|by show p.length+1<=_;exact Qv ‹_› lb) (aa e) (gB<|by refine af lL ?_;show p.length+1+w.length<=_;exact aU<|Qf (Qf a<|Qd 1) b)
theorem yl(h:pv w=true):PyData.strOk w.1=true/\w.1.length<=100/\w.2<=1000:=by
 unfold pv at h;haveI a:=Qs.mp h;haveI b:=Qs.mp a.1;exact⟨b.1,Ql b.2,Ql a.2⟩
theorem amy(h:a≠b)(ha:a<X_.length)(hb:b<X_.length)(hp:X_[p]?=some (.B PD ep))(M:a≠p)(N:b≠p)(P:aB f PD=some (.E B))(C:d.Aa<=4000)(Q:f.length<=100)(hw:pv w=true)(hD:D.1.length<=1000)(hS:S_.1.length<=1000)
 (l0:l 0=some (.B a))(l1:l 1=some (.B b))(l2:l 2=some (.B p))(l4:l 4=some (.D f))(l7:l 7=some (.A d.Ac))(l8:l 8=some (.A d.Aa))(R:l 9=some (qY d.Ab))(r:l 10=some (.A e))(E:l 11=some (.D w.1))(s:l 12=some (.A w.2)):
 ∃l',au c sP l (Y2 X_ a b D S_)=.ok (.Aa,l') (Y2 X_ a b (if w.1="." then D else D.Aa (f++" "++w.1) (jW B d e w.2))<|if w.1="." then S_ else S_.Aa (f++" "++w.1) (szE e w.2))/\l' 10=some (.A (e+w.2:Nat))/\∀j,j<10->l' j=l j:=by
 refine gx (yl hw) λws wl wm=>?_;obtain⟨n,i⟩:∃n:Int,qY d.Ab=.A n:=⟨_,rfl⟩;rw [i] at R;have s1:aN c (.A (.A 13)<|.E .Add (.E .Add (.A 9)<|.A 10)<|.A 12) l (Y2 X_ a b D S_)=.ok (.Aa,l.Aa 13<|.A<|n+e+w.2) (Y2 X_ a b D S_):=az<|aq (aq (aa R) (aa r) rfl) (aa s) rfl;have s3:∀{l':Lc} {H:Hp},l' 10=some (.A e)->l' 12=some (.A w.2)->aN c (.J 10 .Add<|.A 12) l' H=.ok (.Aa,l'.Aa 10<|.A (e+w.2:Nat)) H:=λy I=>xU y (aa I) rfl;have tw:∀{k:Bool} {l':Lc} {H:Hp},l' 11=some (.D w.1)->(w.1 ==".")=k->bj c (.I .NotEq (.A 11)<|.C ".") l' H=.ok (!k) H:=λh u=>am (aa h) rfl<|tS ws (by decide+kernel) u
 by_cases m:w.1="."
 ·exact af (Qh m) (af (Qh m) (⟨_,ah s1<|ah (aH<|tw (show(l.Aa 13 _) 11=_ from E)<|iZ m)<|ah (s3 (show(l.Aa 13 _) 10=_ from r) (show(l.Aa 13 _) 12=_ from s)) aV,rfl,λj x=>by
   show(if j=10 then _ else if j=13 then _ else l j)=_;refine af (Qe<|QC x) ?_;exact af (Qe<|mj<|Qm x) rfl⟩))
 refine af (Qe m)<|af (Qe m) ?_;generalize t:((l.Aa 13<|.A<|n+e+w.2).Aa 15 .C).Aa 14 (.D<|f++" "++w.1)=o;have ao:∀j,j≠13->j≠14->j≠15->o j=l j:=λj y I U=>by
  refine cI t ?_;show(if j=14 then _ else if j=15 then _ else if j=13 then _ else l j)=_;exact af (Qe I)<|af (Qe U)<|af (Qe y) rfl
 have z:∀{j:Nat} {v:V},l j=some v->j≠13->j≠14->j≠15->o j=some v:=λh y I U=>(ao _ y I U).trans h;have s2:aN c (.G [14,15]<|.D [.E .Add (.E .Add (.A 4)<|.C " ")<|.A 11,.J]) (l.Aa 13<|.A<|n+e+w.2) (Y2 X_ a b D S_)=.ok (.Aa,o) (Y2 X_ a b D S_):=by
  show(ak c (.D [.E .Add (.E .Add (.A 4)<|.C " ")<|.A 11,.J]) (l.Aa 13<|.A<|n+e+w.2)<|Y2 X_ a b D S_).Aa _=_;exact af (bf<|ae (abS Q wl (show(l.Aa 13 _) 4=_ from l4) (show(l.Aa 13 _) 11=_ from E))<|ae (x:=.C) rfl aj)<|cI t rfl
 have J:o 13=some (.A<|n+e+w.2):=t ▸rfl;haveI W:o 14=some (.D<|f++" "++w.1):=t ▸rfl;haveI Y:o 15=some .C:=t ▸rfl;have L:bj c (.H (.A 2)<|.A 4) o (Y2 X_ a b D S_)=.ok B (Y2 X_ a b D S_):=agy (aa<|z l2 nb nb nb) (aa<|z l4 nb nb nb)<|jF ((Y2.Aa M N).trans hp) P;have tg:∀{k:Bool},decide (0<=n)=k->bj c (.I .GtE (.A 9)<|.B 0) o (Y2 X_ a b D S_)=.ok k (Y2 X_ a b D S_):=λu=>am (aa<|z R nb nb nb) rfl<|aji u;have tl:∀{k:Bool},decide (n+e+w.2<=d.Aa)=k->bj c (.I .LtE (.A 13)<|.A 8) o (Y2 X_ a b D S_)=.ok k (Y2 X_ a b D S_):=λu=>am (aa J) (aa<|z l8 nb nb nb)<|abL u;obtain⟨A,e4,Z,bo⟩:∃A,aN c (.C (.P true [.H (.A 2)<|.A 4,.I .GtE (.A 9)<|.B 0,.I .LtE (.A 13)<|.A 8]) [.A (.A 15)<|.E .Mod (.E .FloorDiv (.A 7)<|.E .Pow (.B 2)<|.E .Sub (.A 8)<|.A 13)<|.E .Pow (.B 2)<|.A 12] []) o (Y2 X_ a b D S_)=.ok (.Aa,A) (Y2 X_ a b D S_)/\A 15=some (jW B d e w.2)/\∀j,j≠15->A j=o j:=by
  by_cases u:B=true/\0<=n/\n+e+w.2<=d.Aa
  ·refine gx u λk1 G k3=>?_;clear u;obtain⟨g,hg,rfl⟩:∃g:Nat,d.Ab=some g/\n=g:=by
    unfold qY at i;revert i
    cases d.Ab with
    |none=>intro i;injection i with z1;subst z1;exact absurd G dd
    |some g=>intro i;haveI z2:=V.A.inj i;subst z2;exact bv g rfl rfl
   refine cz _ (aK (bD (k1 ▸L)<|bD (tg<|dh G)<|bD (tl<|dh k3) fL)<|ah (az<|ajj (d:=d) (g:=g) (a:=e) (m:=w.2) C hg k1 wm (Int.ofNat_le.mp ‹_›) (z l7 nb nb nb) (z l8 nb nb nb) (z s nb nb nb) J) aV) rfl<|λj x=>?_;show(if j=15 then _ else o j)=_;exact af (Qe x) rfl
  ·have hv:jW B d e w.2=.C:=by
    unfold jW;unfold qY at i;revert i
    cases d.Ab with
    |none=>intro _;rfl
    |some g=>
     intro i;haveI z3:=V.A.inj i;subst z3;exact Qe λq=>u ⟨q.1,by show(0:Int)<=(g:Int);exact Zh _,by show(g:Int)+e+w.2<=d.Aa;lia⟩
   refine cz o (aH ?_) (hv ▸Y)<|λ_ _=>rfl
   cases B with
   |false=>exact cu (d:=true) L
   |true=>
    by_cases G:0<=n
    ·exact bD L<|bD (tg<|dh G)<|cu (d:=true)<|tl<|cy λk3=>u ⟨rfl,G,k3⟩
    ·exact bD L<|cu (d:=true)<|tg<|cy G
 have F:∀{j:Nat} {v:V},l j=some v->j<13->A j=some v:=λh y=>(bo _<|mj<|Qm y).trans<|z h (QC ‹_›) (mj<|Qm y)<|mj<|Qm y;haveI K:=(bo 14 nb).trans W;haveI e5:ak c (.D [.A 15,.E .Add (.E .Sub (.E .FloorDiv (.E .Sub (.E .Add (.A 10)<|.A 12)<|.B 1)<|.B 8)<|.E .FloorDiv (.A 10)<|.B 8)<|.B 1]) A (Y2 X_ a b D S_)=.ok (.F [jW B d e w.2,szE e w.2]) (Y2 X_ a b D S_):=
  bf (ae (aa Z)<|ae (aq (aq (aq (aq (aq (aa<|F r dd) (aa<|F s dd) rfl) rfl rfl) rfl<|eY ⟨dd,dd⟩) (aq (aa<|F r dd) rfl<|eY ⟨dd,dd⟩) rfl) rfl rfl) aj)
 refine cz (A.Aa 10<|.A (e+w.2:Nat)) (ah s1<|ah (aK (tw (k:=false) (show(l.Aa 13 _) 11=_ from E)<|lx m)<|ah s2<|ah e4<|ah (yk h ha hb (F l0 dd) (F l1 dd) hD hS e5 (aa K)<|aa K) aV)<|ah (s3 (F r dd)<|F s dd) aV) rfl<|λj x=>?_;show(if j=10 then _ else A j)=_;exact af (Qe<|QC x)<|af (bo j<|mj<|Qm x)<|af (ao j (mj<|Qm x) (mj<|Qm x)<|mj<|Qm x) rfl
theorem alE(h:H[r]?=some (.A xs)):lf (.B r) H=lg r:=by
 show(Option.elim H[r]? (λ_=>AM.Ac) λa=>oC (λ_=>AM.Ac) a (dict:=uB r) (list:=λ_=>lg r) (barr:=λ_=>uA r))=_;exact af h rfl
theorem sQ(h:H[r]?=some (.A xs)):lg r k H=.ok xs[k]? H:=by
 show(bX r H).Aa _=_;exact af (bO h) rfl
def fM(f:qi->V)(d:DP)(e:qi):DP:=d.Aa e.Aa<|f e
def oo(e:qi):V:=szE e.Ae e.Ac
theorem eM{d:DP}:(d.Aa x v).1.length<=d.1.length+1:=dM _
theorem pw(es:List qi):∀d:DP,(es.foldl (fM f) d).1.length<=d.1.length+es.length:=by
 induction es with
 |nil=>intro _;exact Qd _
 |cons e es r=>
  intro d;haveI a:=r<|fM f d e;haveI b:(fM f d e).1.length<=d.1.length+1:=eM;show(es.foldl (fM f)<|fM f d e).1.length<=_;exact af QG<|st2 b a
theorem ym(ws:List WT):∀a:Nat,(nP p b a ws).length<=ws.length:=by
 induction ws with
 |nil=>intro _;exact Qd _
 |cons w r c=>
  intro a;haveI:=c<|a+w.2;show((if w.1="." then [] else [(⟨p,b,w.1,a,w.2⟩:qi)])++nP p b (a+w.2) r).length<=_;refine af Qi<|af QG ?_
  by_cases h:w.1="."
  ·exact af (Qh h)<|af (Nat.zero_add _)<|Nat.le_succ_of_le this
  ·exact af (Qe h)<|af (ZI 1 _)<|QQ this
theorem amz{c:CF}(h:a≠b)(L:a<X_.length)(M:b<X_.length)(N:X_[p]?=some (.B P ep))(x:a≠p)(y:b≠p)(Q:X_[r]?=some (.A<|ws.map eg))(z:a≠r)(A:b≠r)(B:aB g P=some (.E J))(q:d.Aa<=4000)(C:g.length<=100)(R:ws.all pv=true)(U:D.1.length+ws.length<=900)(K:S_.1.length+ws.length<=900)
 (W:∀w a m,f ⟨g,base,w,a,m⟩=jW J d a m)
 (Y:l 0=some (.B a))(Z:l 1=some (.B b))(l2:l 2=some (.B p))(l4:l 4=some (.D g))(l7:l 7=some (.A d.Ac))(l8:l 8=some (.A d.Aa))(l9:l 9=some (qY d.Ab))(E:l 10=some (.A (0:Nat))):
 ∃l',jK c (.D [.A 11,.A 12]) (lg r) (au c sP) 1001 0 l (Y2 X_ a b D S_)=.ok (.Aa,l') (Y2 X_ a b ((nP g base 0 ws).foldl (fM f) D)<|(nP g base 0 ws).foldl (fM oo) S_)/\∀j,j<10->l' j=l j:=by
 obtain⟨l',H',e,D',S',i,rfl,_,F,G,_,_,o⟩:=il (c:=c) (t:=.D [.A 11,.A 12]) (src:=lg r) (step:=au c sP) (item:=eg) (full:=ws)
  (λrest s H'=>∃D' S' i,H'=Y2 X_ a b D' S'/\s 10=some (.A (i:Nat))/\(nP g base i rest).foldl (fM f) D'=(nP g base 0 ws).foldl (fM f) D/\(nP g base i rest).foldl (fM oo) S'=(nP g base 0 ws).foldl (fM oo) S_/\D'.1.length+rest.length<=900/\S'.1.length+rest.length<=900/\∀j,j<10->s j=l j)
  (λk s H' rest z9=>oq z9 λD' S' i H _=>by
   exact af H<|af (sQ<|(Y2.Aa z A).trans Q)<|af (QD) rfl)
  (λw rest s H' hm ⟨D',S',i,H,q0,F,G,t,u,o⟩=>by
   subst H;rw [QG] at t u;refine eI (amy (c:=c) (D:=D') (S_:=S') (l:=(s.Aa 11<|.D w.1).Aa 12<|.A w.2) h L M N x y B q C (Qx.mp R w hm) (aU<|Qa (Qq D'.fst.length<|rest.length+1) t) (aU<|Qa (Qq S'.fst.length<|rest.length+1) u) ((o 0 lb).trans Y) ((o 1 lb).trans Z) ((o 2 lb).trans l2) ((o 4 lb).trans l4) ((o 7 lb).trans l7) ((o 8 lb).trans l8) ((o 9 lb).trans l9) q0 rfl rfl) λl' e I eo=>aeB ((s.Aa 11<|.D w.1).Aa 12<|.A w.2) _ l' _ (fc rfl<|aS rfl<|aS rfl cZ) e<|⟨_,_,i+w.2,rfl,I,?_,?_,?_,?_,λj v=>(eo j v).trans<|(show(if j=12 then _ else if j=11 then _ else s j)=_ from by(refine af (Qe<|mj<|Qm v) ?_;exact af (Qe<|mj<|Qm v) rfl)).trans<|o j v⟩
   ·refine cI F ?_;show _=List.foldl (fM f) D' ((if w.1="." then [] else [⟨g,base,w.1,i,w.2⟩])++nP g base (i+w.2) rest)
    by_cases n:w.1="."
    ·exact af (Qh n)<|af (Qh n) rfl
    ·exact af (Qe n)<|af (Qe n)<|cI (W w.1 i w.2) rfl
   ·refine cI G ?_;show _=List.foldl (fM oo) S' ((if w.1="." then [] else [⟨g,base,w.1,i,w.2⟩])++nP g base (i+w.2) rest)
    by_cases n:w.1="."
    ·exact af (Qh n)<|af (Qh n) rfl
    ·exact af (Qe n)<|af (Qe n) rfl
   ·by_cases n:w.1="."
    ·exact af (Qh n)<|Qa (QB (Nat.le_succ _) _) t
    ·refine af (Qe n) ?_;haveI:=eM (d:=D') (x:=g++" "++w.1) (v:=jW J d i w.2);exact st1 this t
   ·by_cases n:w.1="."
    ·exact af (Qh n)<|Qa (QB (Nat.le_succ _) _) u
    ·refine af (Qe n) ?_;haveI:=eM (d:=S') (x:=g++" "++w.1) (v:=szE i w.2);exact st1 this u)
  ws [] l (Y2 X_ a b D S_) 1001 rfl (eJ<|Qa (Nat.le_add_left ws.length S_.fst.length) K) (⟨D,S_,0,rfl,E,rfl,rfl,U,K,λ_ _=>rfl⟩)
 exact cI F<|cI G<|bv l' e o
def dc:List qi:=fh.flatMap λh=>nP h.1 h.2.1 0<|(fg[h.2.2]?).getD []
structure ajk(PD BD:List (Str×V))(f:qi->V)(proto base:Str)(ok:Bool)(d:lK):Prop where
 p:aB proto PD=some (.E ok)
 b:aB base BD=some d.v
 Aa:d.Aa<=4000
 f:∀w a m,f ⟨proto,base,w,a,m⟩=jW ok d a m
def yn(c:CF):Prop:=∀H (a b p q:Nat) i j e g f,a≠b->H[a]?=some bP->H[b]?=some bP->H[p]?=some (.B i e)->H[q]?=some (.B j g)->a≠p->b≠p->a≠q->b≠q->(∀h∈fh,∃k d,ajk i j f h.1 h.2.1 k d)->
 ∃G,c 51 [.B a,.B b,.B p,.B q] H=.ok .C (Y2 (H++G) a b (dc.foldl (fM f) ([],some 0))<|dc.foldl (fM oo) ([],some 0))
theorem ajl(hh:nO c):yn (λx=>aM c x):=by
 intro H a b p q PD BD a7 a8 f A P Q ep R B C D E F;have r:a<H.length:=(Qg.mp P).1;have s:b<H.length:=(Qg.mp Q).1;haveI a9:p<H.length:=(Qg.mp ep).1;haveI b0:q<H.length:=(Qg.mp R).1;refine⟨dJ++[.A<|fh.map<|qv H.length],?_⟩;haveI U:=hh H;generalize u:H++(dJ++[O.A<|fh.map<|qv H.length])=X_ at U;have v:X_.length=H.length+13:=by(refine cI u<|af Qi ?_);rfl
 have w:∀{i:Nat} {o:O},H[i]?=some o->X_[i]?=some o:=λ{i o} h=>by(refine cI u<|af (Qj (Qg.mp h).1) ?_);exact h
 have W:∀{i:Nat} {ws:List WT},fg[i]?=some ws->X_[H.length+i]?=some (.A<|ws.map eg):=λ{i ws} h=>by
  haveI hi:i<12:=(Qg.mp h).1;refine cI u<|af bn<|af (Qj hi) ?_;show(List.map _ fg)[i]?=_;refine af (QD) ?_;exact af h rfl
 have Y:X_[H.length+12]?=some (.A<|fh.map<|qv H.length):=by exact cI u bn
 haveI hY:X_=Y2 X_ a b ([],some 0) ([],some 0):=by
  unfold Y2;apply List.ext_getElem?;intro i
  by_cases Z:b=i
  ·subst Z;refine af (QX<|by rw [Qo];exact ot s v) ?_;exact af (w Q) rfl
  ·refine af (QA Z) ?_
   by_cases h1:a=i
   ·subst h1;refine af (QX<|ot r v) ?_;exact af (w P) rfl
   ·exact af (QA h1) rfl
 obtain⟨l',H',e,D',S',rfl,G,J,_⟩:=il (c:=c) (t:=.D [.A 4,.A 5,.A 6]) (src:=lg<|H.length+12) (step:=au c [.A (.D [.A 7,.A 8,.A 9])<|.H (.A 3)<|.A 5,.A (.A 10)<|.B 0,.E (.D [.A 11,.A 12]) (.A 6) sP]) (item:=qv H.length) (full:=fh)
  (λrest m H'=>∃D' S',H'=Y2 X_ a b D' S'/\(rest.flatMap λh=>nP h.1 h.2.1 0<|(fg[h.2.2]?).getD []).foldl (fM f) D'=dc.foldl (fM f) ([],some 0)/\(rest.flatMap λh=>nP h.1 h.2.1 0<|(fg[h.2.2]?).getD []).foldl (fM oo) S'=dc.foldl (fM oo) ([],some 0)/\D'.1.length+20*rest.length<=800/\S'.1.length+20*rest.length<=800/\m 0=some (.B a)/\m 1=some (.B b)/\m 2=some (.B p)/\m 3=some (.B q))
  (λk m H' rest z9=>cM z9 λD' S' K _=>by
   exact af K<|af (sQ<|(Y2.Aa (aeD r)<|aeD s).trans Y)<|af (QD) rfl)
  (λg rest m H' hm ⟨D',S',K,G,J,L,M,l0,l1,l2,l3⟩=>by
   subst K;rw [QG] at L M;haveI N:fh.all (λh=>decide (h.1.length<=100)&&(match fg[h.2.2]? with|some ws=>ws.all pv&&decide (ws.length<=20)|none=>false))=true:=by decide+kernel
   have n:=Qx.mp N g hm;refine ip (F g hm) λok d I=>?_;generalize l:fg[g.2.2]?=wx at n
   cases wx with
   |none=>rw [Bool.and_false] at n;injection n
   |some ws=>
    haveI n:=Qs.mp n;haveI t:=Qs.mp n.2;haveI y:ws.length<=20:=Ql t.2;refine aT (amz (c:=c) (X_:=X_) (D:=D') (S_:=S') (r:=H.length+g.2.2) (l:=((((((m.Aa 4<|.D g.1).Aa 5<|.D g.2.1).Aa 6<|.B<|H.length+g.2.2).Aa 7<|.A d.Ac).Aa 8<|.A d.Aa).Aa 9<|qY d.Ab).Aa 10<|.A (0:Nat)) (base:=g.2.1) A (ot r v) (ot s v) (w ep) B C (W l) (aeD r) (aeD s) I.p I.Aa (Ql n.1) t.1 (aU<|Qf (Qa (Qq D'.fst.length<|20*(rest.length+1)) L) y) (aU<|Qf (Qa (Qq S'.fst.length<|20*(rest.length+1)) M) y) I.f l0 l1 l2 rfl rfl rfl rfl rfl) λl' e z=>aeB (((m.Aa 4<|.D g.1).Aa 5<|.D g.2.1).Aa 6<|.B<|H.length+g.2.2) _ l' _ (fc rfl<|aS rfl<|aS rfl<|aS rfl cZ) ?_<|⟨(nP g.1 g.2.1 0 ws).foldl (fM f) D',(nP g.1 g.2.1 0 ws).foldl (fM oo) S',rfl,?_,?_,?_,?_,(z 0 lb).trans l0,(z 1 lb).trans l1,(z 2 lb).trans l2,(z 3 lb).trans l3⟩
    ·refine ah (cm (aJ (aa l3) (aa rfl)<|jF ((Y2.Aa D E).trans<|w R) I.b)<|fc rfl<|aS rfl<|aS rfl<|aS rfl cZ)<|ah (az rfl)<|ah (eF (aa rfl) ?_) aV;exact af (alE<|(Y2.Aa (aeD r)<|aeD s).trans<|W l) e
    ·rw [←G,List.flatMap_cons,ZK,l];rfl
    ·exact cI J<|af List.flatMap_cons<|af ZK<|af l rfl
    ·exact st3 (pw (f:=f) (nP g.1 g.2.1 0 ws) D') (Qa (ym (p:=g.1) (b:=g.2.1) ws 0) y) L
    ·exact st3 (pw (f:=oo) (nP g.1 g.2.1 0 ws) S') (Qa (ym (p:=g.1) (b:=g.2.1) ws 0) y) M)
  fh [] (λj=>[V.B a,.B b,.B p,.B q][j]?) X_ 1001 rfl lb (⟨_,_,hY,rfl,rfl,lb,lb,rfl,rfl,rfl,rfl⟩)
 rw [←G,←J];apply mP (fd:=ga) (vs:=[.B a,.B b,.B p,.B q]) rfl rfl;rw [←alE Y] at e;exact ah (eF (av aj U) e) aV
def cK(D:DP)(kvs:List (Str×V)):DP:=kvs.foldl (λd p=>d.Aa p.1 p.2) D
theorem fk:cK D (a++b)=cK (cK D a) b:=ZK ..
theorem gT{kvs:List (Str×V)}:∀{D:DP},(cK D kvs).1.length<=D.1.length+kvs.length:=by
 induction kvs with
 |nil=>intro _;exact Qd _
 |cons p r a=>
  intro D;haveI b:=@a<|D.Aa p.1 p.2;have c:(D.Aa p.1 p.2).1.length<=D.1.length+1:=eM;show(cK (D.Aa p.1 p.2) r).1.length<=_;exact af QG<|st2 c b
theorem Y2.Ad(c:X_[a]?=some D.o)(d:X_[b]?=some S_.o):Y2 X_ a b D S_=X_:=by
 unfold Y2;apply List.ext_getElem?;intro i
 by_cases e:b=i
 ·subst e;refine af (QX<|by rw [Qo];exact(Qg.mp d).1) ?_;exact af d rfl
 ·refine af (QA e) ?_
  by_cases f:a=i
  ·subst f;refine af (QX (Qg.mp c).1) ?_;exact af c rfl
  ·exact af (QA f) rfl
theorem Y2.Ae{d f D S_:DP}(c:X_[a]?=some d.o)(g:X_[b]?=some f.o)(h:aY X_ v x=some u):Mine.aY (Y2 X_ a b D S_) v x=some u:=by
 refine dZ (dZ h λcn fs q=>?_) λcn fs q=>?_
 ·rw [c] at q;injection q with z1;injection z1
 ·by_cases e:a=b
  ·subst e;rw [QX (Qg.mp c).1] at q;haveI i:=Qb q;injection i
  ·rw [QA e,g] at q;haveI j:=Qb q;injection j
theorem afb.Aa(k:∀v a u,aY H v a=some u->aY H' v a=some u)(h:afb H sc t d):afb H' sc t d:=
 ⟨k _ _ _ h.st,k _ _ _ h.ir,k _ _ _ h.ma,k _ _ _ h.zn,k _ _ _ h.un,k _ _ _ h.nw,k _ _ _ h.og,k _ _ _ h.rp⟩
noncomputable def rc(H:Hp)(sc tk:V):Option cv->Prop
 |none=>tk=.C
 |some d=>dH tk=false/\afb H sc tk d
theorem rc.Aa(k:∀v a u,aY H v a=some u->aY H' v a=some u)(h:rc H sc t d):rc H' sc t d:=by
 cases d with
 |none=>exact h
 |some d=>exact⟨h.1,h.2.Aa k⟩
noncomputable def w8:List (Str×Nat):=[("ct direction",1),("ct l3proto",1),("ct protocol",1),("ct zone",2),("ct status",4),("ct mark",4),("ct expiration",4),("ct state",4)]
noncomputable abbrev abV:=Str×Nat×Nat×Nat
noncomputable def dG:List abV:=[("ip saddr",4,2,2),("ip daddr",4,2,4),("ip6 saddr",16,10,2),("ip6 daddr",16,10,4),("proto-src",2,0,3),("proto-dst",2,0,5)]
noncomputable def pA(e:abV):V:=.F [.D e.1,.A e.2.1,.A e.2.2.1,.A e.2.2.2]
noncomputable def aaD(q:sq):List V:=[.A q.1,.A q.2.1,.A q.2.2.1,.A q.2.2.2.1,.A q.2.2.2.2.1,.A q.2.2.2.2.2]
def kP(a:Option cv)(w:Str)(e:abV):V:=match a with
 |none=>.C
 |some d=>if e.2.2.1=0∨(e.2.2.1:Int)=(if w="original" then d.og else d.rp).1 then((aaD<|if w="original" then d.og else d.rp)[e.2.2.2]?).getD .C else .C
noncomputable def fm(w:Str)(e:abV):Str:="ct "++w++" "++e.1
noncomputable def mf:List Str:=["original","reply"]
noncomputable def kv7:Option cv->List (Str×V)
 |none=>[]
 |some d=>[("ct direction",.A d.ir),("ct l3proto",.A d.og.1),("ct protocol",.A d.og.2.1),("ct zone",.A d.zn),("ct status",.A d.st),("ct mark",.A d.ma),("ct expiration",.A<|if d.nw<d.un then d.un - d.nw else 0)]
def kvC(a:Option cv):List (Str×V):=mf.flatMap λw=>dG.map λe=>(fm w e,kP a w e)
def afg:List (Str×V):=mf.flatMap λw=>dG.map λe=>(fm w e,.A e.2.1)
def kvT(a:Option cv)(st:V):List (Str×V):=(w8.map λw=>(w.1,V.C))++([(("ct state":Str),st)]++(kv7 a++kvC a))
def re:List (Str×V):=(w8.map λw=>(w.1,V.A w.2))++afg
section
section
variable {c:CF} {X_:Hp} {a b:Nat} {D S_:DP} {l:Lc}
theorem afh(h:a≠b)(d:a<X_.length)(f:l 0=some (.B a))(g:D.1.length<=1000)(i:ak c e l (Y2 X_ a b D S_)=.ok u (Y2 X_ a b D S_))(j:ak c k l (Y2 X_ a b D S_)=.ok (.D x) (Y2 X_ a b D S_)):
 aN c (.A (.B (.A 0) k) e) l (Y2 X_ a b D S_)=.ok (.Aa,l) (Y2 X_ a b (D.Aa x u) S_):=
 cm i (nM (aa f) j (Y2.Ac h d) (Qa g lb)<|Y2.Ab (D':=D.Aa x u) h)
theorem vZ(h:a≠b)(d:a<X_.length)(e:l 0=some (.B a))(f:D.1.length<=1000)(g:oA c i vs l (Y2 X_ a b (D.Aa x u) S_)=r):oA c (.B (.A 0) (.C x)::i) (u::vs) l (Y2 X_ a b D S_)=r:=
 aS (nM (aa e) rfl (Y2.Ac h d) (Qa f lb)<|Y2.Ab (D':=D.Aa x u) h) g
noncomputable abbrev yo:List S:=[.A (.D [.B (.A 0)<|.H (.A 4)<|.A 5,.B (.A 1)<|.H (.A 4)<|.A 5])<|.D [.J,.H (.D [.B 1,.B 1,.B 1,.B 2,.B 4,.B 4,.B 4,.B 4])<|.A 5]]
theorem ajm(h:a≠b)(t:a<X_.length)(u:b<X_.length)(v:X_[w]?=some (.A<|w8.map λp=>.D p.1))(i:a≠w)(m:b≠w)(x:D.1.length<=900)(y:S_.1.length<=900)(z:l 0=some (.B a))(A:l 1=some (.B b))(B:l 4=some (.B w)):
 ∃l',jK c (.A 5) (dO<|.I 8) (au c yo) 1001 0 l (Y2 X_ a b D S_)=.ok (.Aa,l') (Y2 X_ a b (cK D<|w8.map λw=>(w.1,V.C))<|cK S_<|w8.map λw=>(w.1,V.A w.2))/\∀j,j≠5->l' j=l j:=by
 obtain⟨l',H',e,rfl,q⟩:=gR (c:=c) (t:=.A 5) (src:=dO<|.I 8) (step:=au c yo) (n:=8)
  (λk d H'=>H'=Y2 X_ a b (cK D<|(w8.take k).map λw=>(w.1,V.C)) (cK S_<|(w8.take k).map λw=>(w.1,V.A w.2))/\∀j,j≠5->d j=l j) (λj=>.A j)
  (λk d H' g C=>aP C λE q=>by
   subst E;haveI f:k<w8.length:=g;haveI F:(w8.take<|k+1)=w8.take k++[w8[k]]:=(List.take_append_getElem f).symm;haveI n:=gT (D:=D) (kvs:=(w8.take k).map λw=>(w.1,V.C));haveI o:=gT (D:=S_) (kvs:=(w8.take k).map λw=>(w.1,V.A w.2));rw [QU,QL] at n o;haveI r:∀{D' S':DP},ak c (.H (.A 4)<|.A 5) (d.Aa 5<|.A k) (Y2 X_ a b D' S')=.ok (.D w8[k].1) (Y2 X_ a b D' S'):=λ{D' S'}=>
    aJ (aa (show(d.Aa 5 _) 4=_ from(q 4 nb).trans B)) (aa rfl) (dw ((Y2.Aa i m).trans v) (by(refine af (QD) ?_;refine af (Qw f) ?_);rfl) lb)
   have G:[V.A 1,.A 1,.A 1,.A 2,.A 4,.A 4,.A 4,.A 4][k]?=some (.A w8[k].2):=by
    haveI:(w8.map λp=>V.A p.2)[k]?=some (.A w8[k].2):=by(refine af (QD) ?_;refine af (Qw f) ?_);rfl
    exact this
   refine⟨pn g lb,d.Aa 5<|.A k,_,d.Aa 5<|.A k,_,rfl,ah (yk h t u (show(d.Aa 5 _) 0=_ from(q 0 nb).trans z) (show(d.Aa 5 _) 1=_ from(q 1 nb).trans A) (aU<|Qa n<|Qf x<|Qa (Nat.min_le_left k w8.length)<|Qm g) (aU<|Qa o<|Qf y<|Qa (Nat.min_le_left k w8.length)<|Qm g) (bf<|ae rfl<|ae (aJ (x:=.F [.A 1,.A 1,.A 1,.A 2,.A 4,.A 4,.A 4,.A 4]) rfl (aa rfl)<|gV G lb) aj) r r) aV,?_,λj s=>(Qe s).trans<|q j s⟩;exact af F<|af ZL<|af ZL<|af fk<|af fk rfl)
  (λd H' _=>nG lb) 1001 0 l (Y2 X_ a b D S_) (QO _) lb ⟨rfl,λ_ _=>rfl⟩
 exact bv l' e q
noncomputable abbrev nR:List S:=[.G [10,11]<|.D [.E .Add (.E .Add (.E .Add (.C "ct ")<|.A 6)<|.C " ")<|.A 7,.J],.C (.I .IsNot (.A 3) .J) [.A (.A 12)<|.O (.I .Eq (.A 6)<|.C "original") (.L (.A 3) "original")<|.L (.A 3) "reply",.C (.P false [.I .Eq (.A 9)<|.B 0,.I .Eq (.A 9)<|.H (.A 12)<|.B 0]) [.A (.A 11)<|.H (.A 12)<|.A 5] []] [],.A (.D [.B (.A 0)<|.A 10,.B (.A 1)<|.A 10])<|.D [.A 11,.A 8]]
theorem jG(h:ak c e l H=.ok v H1)(d:dH v=k):bj c (.I .IsNot e .J) l H=.ok (!k) H1:=am h rfl (by subst d;rfl)
theorem adV(h:p<6):(aaD q)[p]?=some (((aaD q)[p]?).getD .C):=by refine af (Qw (show p<(aaD q).length from h)) ?_;rfl
theorem amA(h:a≠b)(Y:a<X_.length)(Z:b<X_.length)(B:rc (Y2 X_ a b D S_) sc tk C)(hw:w∈mf)(he:e∈dG)(hD:D.1.length<=1000)(hS:S_.1.length<=1000)
 (l0:l 0=some (.B a))(l1:l 1=some (.B b))(u:l 3=some tk)(E:l 6=some (.D w))(l7:l 7=some (.D e.1))(l8:l 8=some (.A e.2.1))(P:l 9=some (.A e.2.2.1))(l5:l 5=some (.A e.2.2.2)):
 ∃l',au c nR l (Y2 X_ a b D S_)=.ok (.Aa,l') (Y2 X_ a b (D.Aa (fm w e)<|kP C w e)<|S_.Aa (fm w e)<|.A e.2.1)/\∀j,j<10->l' j=l j:=by
 haveI o:mf.all (λw=>PyData.strOk w&&decide (w.length<=100))=true:=by decide+kernel
 haveI x:dG.all (λe=>decide (e.1.length<=100)&&decide (e.2.2.2<6))=true:=by decide+kernel
 have o:=Qs.mp<|Qx.mp o w hw;have x:=Qs.mp<|Qx.mp x e he;haveI F:w.length<=100:=Ql o.2;haveI el:e.1.length<=100:=Ql x.1;generalize m:(l.Aa 11 .C).Aa 10 (.D<|fm w e)=f;have g:∀j,j<10->f j=l j:=λj i=>by
  refine cI m ?_;show(if j=10 then _ else if j=11 then _ else l j)=_;exact af (Qe<|QC i)<|af (Qe<|mj<|Qm i) rfl
 haveI G:f 10=some (.D<|fm w e):=m ▸rfl;have p:f 11=some .C:=m ▸rfl;haveI s1:aN c (.G [10,11]<|.D [.E .Add (.E .Add (.E .Add (.C "ct ")<|.A 6)<|.C " ")<|.A 7,.J]) l (Y2 X_ a b D S_)=.ok (.Aa,f) (Y2 X_ a b D S_):=by
  have H:(Str.ofString "ct ").length=3:=by decide+kernel
  have Q:(Str.ofString " ").length=1:=by decide+kernel
  show(ak c (.D [.E .Add (.E .Add (.E .Add (.C "ct ")<|.A 6)<|.C " ")<|.A 7,.J]) l<|Y2 X_ a b D S_).Aa _=_;exact af (bf<|ae (aq (aq (aq (x:=.D "ct ") rfl (aa E)<|gB<|by rw [H];exact aU<|Qf (Qd 3) F) (y:=.D " ") rfl<|gB<|by rw [lL,H,Q];exact aU<|Qf (Qf (Qd 3) F)<|Qd 1) (aa l7)<|gB<|by rw [lL,lL,H,Q];exact aU<|Qf (Qf (Qf (Qd 3) F)<|Qd 1) el)<|ae (x:=.C) rfl aj)<|cI m rfl
 obtain⟨lb,e4,J,K⟩:∃lb,aN c (.C (.I .IsNot (.A 3) .J) [.A (.A 12)<|.O (.I .Eq (.A 6)<|.C "original") (.L (.A 3) "original")<|.L (.A 3) "reply",.C (.P false [.I .Eq (.A 9)<|.B 0,.I .Eq (.A 9)<|.H (.A 12)<|.B 0]) [.A (.A 11)<|.H (.A 12)<|.A 5] []] []) f (Y2 X_ a b D S_)=.ok (.Aa,lb) (Y2 X_ a b D S_)/\lb 11=some (kP C w e)/\∀j,j<11->lb j=f j:=by
  cases C with
  |none=>
   obtain rfl:tk=.C:=B;exact cz f (aH<|jG (k:=true) (aa<|(g 3 lb).trans u) rfl) p<|λ_ _=>rfl
  |some d=>
   refine aP B λhn I=>?_;clear B;have t0:=jG (c:=c) (H:=Y2 X_ a b D S_) (aa<|(g 3 lb).trans u) hn;have es:ak c (.O (.I .Eq (.A 6)<|.C "original") (.L (.A 3) "original")<|.L (.A 3) "reply") f (Y2 X_ a b D S_)=.ok (cX<|if w="original" then d.og else d.rp) (Y2 X_ a b D S_):=by
    by_cases z:w="original"
    ·exact af (Qh z)<|cf (am (aa<|(g 6 lb).trans E) rfl<|eq_str o.1 (by decide+kernel)<|iZ z)<|bB (aa<|(g 3 lb).trans u) I.og
    ·exact af (Qe z)<|ci (am (aa<|(g 6 lb).trans E) rfl<|eq_str o.1 (by decide+kernel)<|lx z)<|bB (aa<|(g 3 lb).trans u) I.rp
   unfold kP;dsimp only;generalize (if w="original" then d.og else d.rp)=n at es ⊢;have y:∀j,j<12->(f.Aa 12<|cX n) j=f j:=λj i=>by show(if j=12 then _ else f j)=_;exact af (Qe<|QC i) rfl
   have L:∀{k:Bool},decide ((e.2.2.1:Int)=0)=k->bj c (.I .Eq (.A 9)<|.B 0) (f.Aa 12<|cX n) (Y2 X_ a b D S_)=.ok k (Y2 X_ a b D S_):=λM=>am (aa<|(y 9 lb).trans<|(g 9 lb).trans P) rfl<|dC M;have R:∀{k:Bool},decide ((e.2.2.1:Int)=n.1)=k->bj c (.I .Eq (.A 9)<|.H (.A 12)<|.B 0) (f.Aa 12<|cX n) (Y2 X_ a b D S_)=.ok k (Y2 X_ a b D S_):=λM=>am (aa<|(y 9 lb).trans<|(g 9 lb).trans P) (aJ (aa rfl) rfl<|bu (i:=0) rfl)<|dC M;have st:=λ(t:bj c (.P false [.I .Eq (.A 9)<|.B 0,.I .Eq (.A 9)<|.H (.A 12)<|.B 0]) (f.Aa 12<|cX n) (Y2 X_ a b D S_)=.ok true (Y2 X_ a b D S_))=>aK (sb:=[]) t<|ah (az (j:=11)<|aJ (aa (j:=12) rfl) (aa<|(y 5 lb).trans<|(g 5 lb).trans l5)<|gV (adV (q:=n)<|Ql x.2)<|Qy rfl) aV;have r:∀{v:V} (j:Nat),j<11->((f.Aa 12<|cX n).Aa 11 v) j=f j:=λ{v} j i=>by show(if j=11 then _ else if j=12 then _ else f j)=_;exact af (Qe<|QC i)<|af (Qe<|mj<|Qm i) rfl
   by_cases U:e.2.2.1=0
   ·exact af (Qh<|.inl U)<|cz _ (aK t0<|ah (az es)<|ah (st<|cu (d:=false)<|L<|dh<|Qt _ ‹_›) aV) rfl r
   ·by_cases A:(e.2.2.1:Int)=n.1
    ·exact af (Qh<|.inr A)<|cz _ (aK t0<|ah (az es)<|ah (st<|bD (L<|cy<|by lia)<|cu (d:=false)<|R<|dh A) aV) rfl r
    ·exact af (Qe (λq=>by rcases q with q|q;exact U q;exact A q))<|cz _ (aK t0<|ah (az es)<|ah (aH<|bD (L<|cy<|by lia)<|bD (R<|cy A) fL) aV) p<|λj i=>y j<|Nat.le_succ_of_le ‹_›
 haveI N:∀{j:Nat} {v:V},l j=some v->j<10->lb j=some v:=λh W=>(K _<|eJ<|Qm W).trans<|(g _ W).trans h;haveI s:=(K 10 dd).trans G;exact bv lb (ah s1<|ah e4<|ah (yk h Y Z (N l0 dd) (N l1 dd) hD hS (bf<|ae (aa J)<|ae (aa<|N l8 dd) aj) (aa s)<|aa s) aV)<|λj i=>(K j<|eJ<|Qm i).trans<|g j i
end
end
section
section
variable {c:CF} {X_:Hp} {a b:Nat} {D S_:DP} {l:Lc}
theorem ajn(h:a≠b)(s:a<X_.length)(t:b<X_.length)(u:∀D' S',rc (Y2 X_ a b D' S') sc tk f)(v:w∈mf)(x:D.1.length<=900)(y:S_.1.length<=900)
 (z:l 0=some (.B a))(A:l 1=some (.B b))(B:l 3=some tk)(C:l 6=some (.D w)):
 ∃l',jK c (.D [.A 7,.A 8,.A 9,.A 5]) (dO<|.F<|dG.map pA) (au c nR) 1001 0 l (Y2 X_ a b D S_)=.ok (.Aa,l') (Y2 X_ a b (cK D<|dG.map λe=>(fm w e,kP f w e))<|cK S_<|dG.map λe=>(fm w e,V.A e.2.1))/\∀j,j<5->l' j=l j:=by
 obtain⟨l',H',e,D',S',rfl,i,m,_,_,_,E⟩:=il (c:=c) (t:=.D [.A 7,.A 8,.A 9,.A 5]) (src:=dO<|.F<|dG.map pA) (step:=au c nR) (item:=pA) (full:=dG)
  (λrest d H'=>∃D' S',H'=Y2 X_ a b D' S'/\cK D' (rest.map λe=>(fm w e,kP f w e))=cK D (dG.map λe=>(fm w e,kP f w e))/\cK S' (rest.map λe=>(fm w e,V.A e.2.1))=cK S_ (dG.map λe=>(fm w e,V.A e.2.1))/\D'.1.length+rest.length<=950/\S'.1.length+rest.length<=950/\d 6=some (.D w)/\∀j,j<5->d j=l j)
  (λk d H' rest _=>by show bJ.ok (dG.map pA)[k]? H'=_;exact af (QD) rfl)
  (λe rest d H' F ⟨D',S',G,i,m,n,o,p,q⟩=>by
   subst G;rw [QG] at n o;refine aT (amA (c:=c) (D:=D') (S_:=S') (l:=(((d.Aa 7<|.D e.1).Aa 8<|.A e.2.1).Aa 9<|.A e.2.2.1).Aa 5<|.A e.2.2.2) h s t (u D' S') v F (aU<|Qa (Qq D'.fst.length<|rest.length+1) n) (aU<|Qa (Qq S'.fst.length<|rest.length+1) o) ((q 0 lb).trans z) ((q 1 lb).trans A) ((q 3 lb).trans B) p rfl rfl rfl rfl) λl' H r=>aeB _ _ l' _ (fc rfl<|aS rfl<|aS rfl<|aS rfl<|aS rfl cZ) H<|⟨D'.Aa (fm w e)<|kP f w e,S'.Aa (fm w e)<|.A e.2.1,rfl,i,m,?_,?_,(r 6 lb).trans p,λj g=>(r j<|Qr ‹_› lb).trans<|(show(if j=5 then _ else if j=9 then _ else if j=8 then _ else if j=7 then _ else d j)=d j from by(refine af (Qe<|QC g) ?_;refine af (Qe<|mj<|Qm g) ?_;refine af (Qe<|mj<|Qm g) ?_;exact af (Qe<|mj<|Qm g) rfl)).trans<|q j g⟩
   ·haveI:=eM (d:=D') (x:=fm w e) (v:=kP f w e);exact st1 this n
   ·haveI:=eM (d:=S') (x:=fm w e) (v:=V.A e.2.1);exact st1 this o)
  dG [] l (Y2 X_ a b D S_) 1001 rfl lb (⟨D,S_,rfl,rfl,rfl,by show _+6<=_;exact aU<|Qf x<|Qd 6,by show _+6<=_;exact aU<|Qf y<|Qd 6,C,λ_ _=>rfl⟩)
 exact cI i<|cI m<|bv l' e E
abbrev yp:List S:=[.E (.D [.A 7,.A 8,.A 9,.A 5]) (.D [.D [.C "ip saddr",.B 4,.B 2,.B 2],.D [.C "ip daddr",.B 4,.B 2,.B 4],.D [.C "ip6 saddr",.B 16,.B 10,.B 2],.D [.C "ip6 daddr",.B 16,.B 10,.B 4],.D [.C "proto-src",.B 2,.B 0,.B 3],.D [.C "proto-dst",.B 2,.B 0,.B 5]]) nR]
theorem ajo(h:a≠b)(t:a<X_.length)(u:b<X_.length)(v:∀D' S',rc (Y2 X_ a b D' S') sc tk d)(x:D.1.length<=800)(y:S_.1.length<=800)
 (z:l 0=some (.B a))(A:l 1=some (.B b))(B:l 3=some tk):
 ∃l',jK c (.A 6) (dO<|.F<|mf.map V.D) (au c yp) 1001 0 l (Y2 X_ a b D S_)=.ok (.Aa,l') (Y2 X_ a b (cK D<|kvC d)<|cK S_ afg):=by
 obtain⟨l',H',e,D',S',rfl,g,i,_⟩:=il (c:=c) (t:=.A 6) (src:=dO<|.F<|mf.map V.D) (step:=au c yp) (item:=V.D) (full:=mf)
  (λrest f H'=>∃D' S',H'=Y2 X_ a b D' S'/\cK D' (rest.flatMap λw=>dG.map λe=>(fm w e,kP d w e))=cK D (kvC d)/\cK S' (rest.flatMap λw=>dG.map λe=>(fm w e,V.A e.2.1))=cK S_ afg/\D'.1.length+6*rest.length<=900/\S'.1.length+6*rest.length<=900/\∀j,j<5->f j=l j)
  (λk f H' rest _=>by show bJ.ok (mf.map V.D)[k]? H'=_;exact af (QD) rfl)
  (λw rest f H' C E=>alo E λD' S' F g i m n q=>by
   subst F;rw [QG] at m n;refine aT (ajn (c:=c) (D:=D') (S_:=S') (l:=f.Aa 6<|.D w) h t u v C (aU<|Qa (Qq D'.fst.length<|6*(rest.length+1)) m) (aU<|Qa (Qq S'.fst.length<|6*(rest.length+1)) n) ((q 0 lb).trans z) ((q 1 lb).trans A) ((q 3 lb).trans B) rfl) λl' G H=>?_;haveI p:=gT (D:=D') (kvs:=dG.map λe=>(fm w e,kP d w e));haveI r:=gT (D:=S') (kvs:=dG.map λe=>(fm w e,V.A e.2.1));rw [QU] at p r;have s:dG.length=6:=rfl;refine aeB _ _ l' _ rfl (ah (eF (v:=.F<|dG.map pA) rfl G) aV)<|aeA _ _ rfl ?_ ?_ (st3 p (Qk s) m) (st3 r (Qk s) n)<|λj o=>(H j o).trans<|(Qe<|mj<|Qm o).trans<|q j o
   ·rw [←g,List.flatMap_cons,fk]
   ·rw [←i,List.flatMap_cons,fk])
  mf [] l (Y2 X_ a b D S_) 1001 rfl lb (aeA D S_ rfl rfl rfl (by show _+12<=_;exact aU<|Qf x<|Qd 12) (by show _+12<=_;exact aU<|Qf y<|Qd 12)<|λ_ _=>rfl)
 exact cI g<|cI i<|⟨l',e⟩
end
def kQ(c:CF):Prop:=∀H (a b:Nat) sc tk e d (D S_:DP),a≠b->H[a]?=some D.o->H[b]?=some S_.o->D.1.length<=500->S_.1.length<=500->aY H sc "state"=some d->rc H sc tk e->∃G,c 53 [.B a,.B b,sc,tk] H=.ok .C (Y2 (H++G) a b (cK D<|kvT e d)<|cK S_ re)
theorem aaE:kQ (λx=>aM c x):=by
 intro H a b sc tk t k D S_ i P Q E R G A;have q:a<H.length:=(Qg.mp P).1;have F:b<H.length:=(Qg.mp Q).1;refine⟨[.A<|w8.map λp=>.D p.1],?_⟩;haveI J:ak c (.M [.C "ct direction",.C "ct l3proto",.C "ct protocol",.C "ct zone",.C "ct status",.C "ct mark",.C "ct expiration",.C "ct state"]) (λj=>[V.B a,.B b,sc,tk][j]?) H=.ok (.B H.length) (H++[.A<|w8.map λp=>.D p.1]):=cV rfl;haveI U:(H++[O.A<|w8.map λp=>.D p.1])[H.length]?=some (.A<|w8.map λp=>.D p.1):=atL;have K:(H++[O.A<|w8.map λp=>.D p.1])[a]?=some D.o:=by refine af (Qj q) ?_;exact P
 have L:(H++[O.A<|w8.map λp=>.D p.1])[b]?=some S_.o:=by rw [Qj F];exact Q
 have o:(H++[O.A<|w8.map λp=>.D p.1]).length=H.length+1:=Qi ..;have M:∀v x u,aY H v x=some u->∀D' S',aY (Y2 (H++[O.A<|w8.map λp=>.D p.1]) a b D' S') v x=some u:=λv x u h D' S'=>Y2.Ae K L<|aW h;haveI s:=Y2.Ad K L;generalize H++[O.A<|w8.map λp=>.D p.1]=X_ at J U K L o M s;rw [←s] at J;have W:∀D' S',rc (Y2 X_ a b D' S') sc tk t:=λD' S'=>A.Aa λv x u h=>M v x u h D' S';haveI hs:∀{D' S'},aY (Y2 X_ a b D' S') sc "state"=some k:=M _ _ _ G _ _;refine aT (ajm (c:=c) (D:=D) (S_:=S_) (l:=Lc.Aa (λj=>[V.B a,.B b,sc,tk][j]?) 4<|.B H.length) i (ot q o) (ot F o) U (QC q) (QC F) (aU E) (aU R) rfl rfl rfl) λr N f=>?_;haveI Y:=gT (D:=D) (kvs:=w8.map λw=>(w.1,V.C));haveI Z:=gT (D:=S_) (kvs:=w8.map λw=>(w.1,V.A w.2));haveI n3:(w8.map λw=>(w.1,V.C)).length=8:=rfl;haveI n4:(w8.map λw=>(w.1,V.A w.2)).length=8:=rfl;unfold kvT re;rw [fk,fk,fk,fk];generalize cK D (w8.map λw=>(w.1,V.C))=B at N Y ⊢;generalize cK S_ (w8.map λw=>(w.1,V.A w.2))=g at N Z ⊢;haveI s2:aN c (.A (.B (.A 0)<|.C "ct state")<|.L (.A 2) "state") r (Y2 X_ a b B g)=.ok (.Aa,r) (Y2 X_ a b (B.Aa "ct state" k) g):=afh i (ot q o) (f 0 nb) (aU<|Qa Y<|Qf E<|Qk n3) (bB (aa<|f 2 nb) hs) rfl;haveI n5:=eM (d:=B) (x:="ct state") (v:=k);refine af (show cK B [(("ct state":Str),k)]=B.Aa "ct state" k from rfl) ?_;generalize B.Aa "ct state" k=C at s2 n5 ⊢;have s3:aN c (.C (.I .IsNot (.A 3) .J) [.A (.D [.B (.A 0)<|.C "ct direction",.B (.A 0)<|.C "ct l3proto",.B (.A 0)<|.C "ct protocol"])<|.D [.L (.A 2) "is_reply",.H (.L (.A 3) "original")<|.B 0,.H (.L (.A 3) "original")<|.B 1],.A (.D [.B (.A 0)<|.C "ct zone",.B (.A 0)<|.C "ct status",.B (.A 0)<|.C "ct mark"])<|.D [.L (.A 3) "zone",.L (.A 3) "status",.L (.A 3) "mark"],.A (.B (.A 0)<|.C "ct expiration")<|.O (.I .Gt (.L (.A 3) "until")<|.L (.A 2) "now") (.E .Sub (.L (.A 3) "until")<|.L (.A 2) "now")<|.B 0] []) r (Y2 X_ a b C g)=.ok (.Aa,r) (Y2 X_ a b (cK C<|kv7 t) g):=by
  cases t with
  |none=>
   obtain rfl:tk=.C:=A;exact aH<|jG (k:=true) (aa<|f 3 nb) rfl
  |some d=>
   have I:=λD' S'=>(W D' S').2;haveI m:∀(D:DP) (x y z:Str) (u v w:V),D.1.length<=600->(((D.Aa x u).Aa y v).Aa z w).1.length<=D.1.length+3:=λD x y z u v w _=>by
    exact Qa (eM (d:=(D.Aa x u).Aa y v) (x:=z) (v:=w))<|QQ<|Qa (eM (d:=D.Aa x u) (x:=y) (v:=v))<|QQ<|eM (d:=D) (x:=x) (v:=u)
   haveI n:∀{D:DP} {x y z:Str} {u v w:V} {e:X},D.1.length<=600->ak c e r (Y2 X_ a b D g)=.ok (.F [u,v,w]) (Y2 X_ a b D g)->aN c (.A (.D [.B (.A 0)<|.C x,.B (.A 0)<|.C y,.B (.A 0)<|.C z]) e) r (Y2 X_ a b D g)=.ok (.Aa,r) (Y2 X_ a b (((D.Aa x u).Aa y v).Aa z w) g):=λ{D x y z u v w e} E he=>by
    haveI h1:=eM (d:=D) (x:=x) (v:=u);haveI h2:=eM (d:=D.Aa x u) (x:=y) (v:=v);exact cm he<|fc rfl<|vZ i (ot q o) (f 0 nb) (Qa ‹_› lb)<|vZ i (ot q o) (f 0 nb) (aU<|Qa h1<|Qf E<|Qd 1)<|vZ i (ot q o) (f 0 nb) (aU<|Qa h2<|Qf (Qa h1<|Qf E<|Qd 1)<|Qd 1) cZ
   have ex:∀D':DP,ak c (.O (.I .Gt (.L (.A 3) "until")<|.L (.A 2) "now") (.E .Sub (.L (.A 3) "until")<|.L (.A 2) "now")<|.B 0) r (Y2 X_ a b D' g)=.ok (.A<|if d.nw<d.un then d.un - d.nw else 0) (Y2 X_ a b D' g):=λD'=>by
    by_cases z:d.nw<d.un
    ·exact af (Qh z)<|cf (am (bB (aa<|f 3 nb) (I D' g).un) (bB (aa<|f 2 nb) (I D' g).nw)<|iN<|dh z)<|aq (bB (aa<|f 3 nb) (I D' g).un) (bB (aa<|f 2 nb) (I D' g).nw) rfl
    ·exact af (Qe z)<|ci (am (bB (aa<|f 3 nb) (I D' g).un) (bB (aa<|f 2 nb) (I D' g).nw)<|iN<|cy z) rfl
   haveI k1:=m C "ct direction" "ct l3proto" "ct protocol" (.A d.ir) (.A d.og.1) (.A d.og.2.1) (by lia);haveI k2:=m (((C.Aa "ct direction"<|.A d.ir).Aa "ct l3proto"<|.A d.og.1).Aa "ct protocol"<|.A d.og.2.1) "ct zone" "ct status" "ct mark" (.A d.zn) (.A d.st) (.A d.ma) (by lia);exact aK (jG (aa<|f 3 nb) A.1) (ah (n (by lia)<|bf<|ae (bB (aa<|f 2 nb) (I _ _).ir)<|ae (aJ (bB (aa<|f 3 nb) (I _ _).og) rfl<|bu (i:=0) rfl)<|ae (aJ (bB (aa<|f 3 nb) (I _ _).og) rfl<|bu (i:=1) rfl) aj)
    (ah (n (by lia)<|bf<|ae (bB (aa<|f 3 nb) (I _ _).zn)<|ae (bB (aa<|f 3 nb) (I _ _).st)<|ae (bB (aa<|f 3 nb) (I _ _).ma) aj)
    (ah (afh i (ot q o) (f 0 nb) (by lia) (ex _) rfl) aV)))
 haveI n6:=gT (D:=C) (kvs:=kv7 t);haveI n7:(kv7 t).length<=7:=by cases t with|none=>exact QO _|some d=>exact Qd _
 refine bC (ajo (c:=c) (D:=cK C<|kv7 t) (S_:=g) (l:=r) i (ot q o) (ot F o) W (by lia) (aU<|Qa Z<|Qf R<|Qk n4) (f 0 nb) (f 1 nb)<|f 3 nb) λl4 e4=>?_;apply mP (fd:=jz) (vs:=[.B a,.B b,sc,tk]) rfl rfl;exact ah (az J)<|ah (pV (n:=8) rfl N)<|ah s2<|ah s3<|ah (eF (v:=.F<|mf.map V.D) rfl e4) aV
end
noncomputable def gU:List WT:=[("length",4),("protocol",2),("nfproto",1),("l4proto",1),("mark",4),("priority",4),("iif",4),("oif",4),("iifname",16),("oifname",16),("iiftype",2),("oiftype",2),("pkttype",1)]
noncomputable def jH(k:Str):Str:="meta "++k
def kvM(a:Str->V):List (Str×V):=gU.map λr=>(jH r.1,a r.1)
def abW:List (Str×V):=gU.map λr=>(jH r.1,.A r.2)
def kR(c:CF):Prop:=∀H (a b m:Nat) M ep (D S_:DP) d,a≠b->H[a]?=some D.o->H[b]?=some S_.o->H[m]?=some (.B M ep)->D.1.length<=500->S_.1.length<=500->(∀r∈gU,aB r.1 M=some (d r.1))->a≠m->b≠m->∃G,c 54 [.B a,.B b,.B m] H=.ok .C (Y2 (H++G) a b (cK D<|kvM d)<|cK S_ abW)
noncomputable abbrev afi:List S:=[.A (.D [.B (.A 0)<|.E .Add (.C "meta ")<|.A 4,.B (.A 1)<|.E .Add (.C "meta ")<|.A 4])<|.D [.H (.A 2)<|.A 4,.A 5]]
theorem aaF:kR (λx=>aM c x):=by
 intro H a b m M ep D S_ g l F G Q R U W n p;have q:a<H.length:=(Qg.mp F).1;have s:b<H.length:=(Qg.mp G).1;refine⟨[.A<|gU.map eg],?_⟩;haveI t:ak c (.M [.D [.C "length",.B 4],.D [.C "protocol",.B 2],.D [.C "nfproto",.B 1],.D [.C "l4proto",.B 1],.D [.C "mark",.B 4],.D [.C "priority",.B 4],.D [.C "iif",.B 4],.D [.C "oif",.B 4],.D [.C "iifname",.B 16],.D [.C "oifname",.B 16],.D [.C "iiftype",.B 2],.D [.C "oiftype",.B 2],.D [.C "pkttype",.B 1]]) (λj=>[V.B a,.B b,.B m][j]?) H=.ok (.B H.length) (H++[.A<|gU.map eg]):=cV rfl;haveI u:(H++[O.A<|gU.map eg])[H.length]?=some (.A<|gU.map eg):=atL;have v:∀{i:Nat} {o:O},H[i]?=some o->(H++[O.A<|gU.map eg])[i]?=some o:=λ{i o} h=>by refine af (Qj (Qg.mp h).1) ?_;exact h
 haveI w:(H++[O.A<|gU.map eg]).length=H.length+1:=Qi ..;haveI I:=v Q;haveI d:=Y2.Ad (v F)<|v G;generalize H++[O.A<|gU.map eg]=X_ at t u w I d;rw [←d] at t;obtain⟨l',H',e,D',S',rfl,y,z,_⟩:=il (c:=c) (t:=.D [.A 4,.A 5]) (src:=lg H.length) (step:=au c afi) (item:=eg) (full:=gU)
  (λrest f H'=>∃D' S',H'=Y2 X_ a b D' S'/\cK D' (rest.map λr=>(jH r.1,g r.1))=cK D (kvM g)/\cK S' (rest.map λr=>(jH r.1,V.A r.2))=cK S_ abW/\D'.1.length+rest.length<=900/\S'.1.length+rest.length<=900/\f 0=some (.B a)/\f 1=some (.B b)/\f 2=some (.B m))
  (λk f H' rest Y=>cM Y λD' S' A _=>by(exact af A<|af (sQ<|(Y2.Aa (QC q)<|QC s).trans u)<|af (QD) rfl))
  (λr rest f H' J ⟨D',S',A,y,z,B,C,K,L,N⟩=>by
   subst A;rw [QG] at B C;haveI E:gU.all (λr=>decide (r.1.length<=100))=true:=by decide+kernel
   haveI E:r.1.length<=100:=Ql<|Qx.mp E r J;haveI Z:(Str.ofString "meta ").length=5:=by decide+kernel
   have P:∀{D' S'},ak c (.E .Add (.C "meta ")<|.A 4) ((f.Aa 4<|.D r.1).Aa 5<|.A r.2) (Y2 X_ a b D' S')=.ok (.D<|jH r.1) (Y2 X_ a b D' S'):=λ{D' S'}=>aq (x:=.D "meta ") rfl (aa rfl)<|gB (by exact af Z<|aU<|Qf (Qd 5) E);refine aeB _ _ ((f.Aa 4<|.D r.1).Aa 5<|.A r.2) _ (fc rfl<|aS rfl<|aS rfl cZ) (ah (yk l (ot q w) (ot s w) K L (aU<|Qa (Qq D'.fst.length<|rest.length+1) B) (aU<|Qa (Qq S'.fst.length<|rest.length+1) C) (bf<|ae (aJ (aa N) (aa rfl)<|jF ((Y2.Aa n p).trans I)<|W r J)<|ae (aa rfl) aj) P P) aV)<|⟨D'.Aa (jH r.1)<|g r.1,S'.Aa (jH r.1)<|.A r.2,rfl,y,z,?_,?_,K,L,N⟩
   ·haveI:=eM (d:=D') (x:=jH r.1) (v:=g r.1);exact st1 this B
   ·haveI:=eM (d:=S') (x:=jH r.1) (v:=V.A r.2);exact st1 this C)
  gU [] (Lc.Aa (λj=>[V.B a,.B b,.B m][j]?) 3<|.B H.length) (Y2 X_ a b D S_) 1001 rfl lb (⟨D,S_,rfl,rfl,rfl,by show _+13<=_;exact aU<|Qf R<|Qd 13,by show _+13<=_;exact aU<|Qf U<|Qd 13,rfl,rfl,rfl⟩)
 refine cI y<|cI z ?_;rw [←alE ((Y2.Aa (X_:=X_) (a:=a) (b:=b) (i:=H.length) (D:=D) (S_:=S_) (QC q)<|QC s).trans u)] at e;apply mP (fd:=jA) (vs:=[.B a,.B b,.B m]) rfl rfl;exact ah (az t)<|ah (eF (aa rfl) e) aV
theorem yq(a:au c b l H=.Ac k w H1)(d:au c h (Lc.Aa (λ_=>none) i<|.B H1.length) (H1++[.C k [("why",.D w),("at",.A<|-1)]])=.ok (.Ab v,g) e):aN c (.K b k i h) l H=.ok (.Ab v,λ_=>none) e:=by
 show(bJ.casesOn (motive:=λ_=>bJ<|Fl×Lc) (au c b l H) .ok (λf w H'=>if f=k then AM.Aa (jp<|.C k [("why",.D w),("at",.A<|-1)]) _ H' else .Ab) .Ab)=_;refine af a<|(Qh rfl).trans ?_;show(au c h (Lc.Aa (λ_=>none) i<|.B H1.length)<|H1++[.C k [("why",.D w),("at",.A<|-1)]]).Aa _=_;exact af d rfl
theorem pB(h:ak c e l H=.Ac k w H1):aN c (.D e) l H=.Ac k w H1:=by
 show(ak c e l H).Aa _=_;exact af h rfl
def yr(a c:CF):Prop:=∀H sc n w,a 33 [sc,io n] H=.Ac "Misused" w H->∃G,c 55 [sc,.D n] H=.ok (.D w) (H++G)
theorem ajp:yr c (λx=>aM c x):=by
 intro H sc n w e;refine⟨[.C "Misused" [("why",.D w),("at",.A<|-1)]],?_⟩;apply aE (fd:=gb) (vs:=[sc,.D n]) rfl rfl;exact bb<|yq (hW<|pB<|av (ae (aa rfl)<|ae (bf<|ae rfl<|ae (aa rfl) aj) aj) e)<|aI<|jT (aa rfl)<|fy atL rfl
def nS(c:CF):Prop:=∀H b,jM b=some none->b.length<=200->∃G,c 56 [.G b] H=.ok (.E true) (H++G)
theorem adW(a:c 27=cU gi):nS (λx=>aM c x):=by
 intro H b d f;haveI e:c 27 [.G b] H=.Ac "BadPacket" "frame too short" H:=xE a d f rfl;refine⟨[.C "BadPacket" [("why",.D "frame too short"),("at",.A<|-1)]],?_⟩;apply aE (fd:=fE) (vs:=[.G b]) rfl rfl;exact bb<|yq (hW<|pB<|av (ae (aa rfl) aj) e)<|aI<|ia (jT (aa rfl)<|fy atL rfl) rfl<|eq_str (by decide+kernel) (by decide+kernel)<|iZ rfl
theorem yt(h:SeqAt.shaped d=true):d.canLay0=true:=(Qs.mp h).1
theorem adX(a:toPy 8 H v=some d)(b:toPy 8 H w=some d)(hs:SeqAt.shaped d=true):eqP H v w=some true:=by
 unfold eqP;refine af a<|af b ?_;show(if(SeqAt.shaped d&&SeqAt.shaped d)=true then some (PyData.eqv d d) else none)=_;exact af hs<|af (SeqAt.eqv_refl d<|yt hs) rfl
def abX(H:Hp)(v:V):Prop:=(∀b,v≠.G b)/\fN H v=none
theorem ajq(n:abX H v):eqV H v w=eqP H v w:=by
 haveI e:eqD H v w=eqP H v w:=by unfold eqD;exact af n.2 rfl
 cases v with
 |G b=>exact absurd rfl<|n.1 b
 |_=>exact e
theorem yu(n:abX H v)(a:toPy 8 H v=some d)(b:toPy 8 H w=some d)(hs:SeqAt.shaped d=true):eqV H v w=some true:=by
 exact af (ajq n)<|adX a b hs
theorem nT(n:abX H v)(a:toPy 8 H v=some d)(b:toPy 8 H w=some d)(hs:SeqAt.shaped d=true):eO .NotEq v w H=.ok (.E false) H:=by
 show zB ((eqV H v w).map (!·)) H=_;exact af (yu n a b hs) rfl
theorem eq_same(n:abX H v)(a:toPy 8 H v=some d)(b:toPy 8 H w=some d)(hs:SeqAt.shaped d=true):eO .Eq v w H=.ok (.E true) H:=by
 show zB (eqV H v w) H=_;rw [yu n a b hs];rfl
theorem pC:abX H (.F l):=⟨λ_ h=>by injection h,rfl⟩
theorem uc:abX H .C:=⟨λ_ h=>by injection h,rfl⟩
theorem adY:abX H (.A i):=⟨λ_ h=>by injection h,rfl⟩
theorem ud(h:H[i]?=some (.A xs)):abX H (.B i):=⟨λ_ h=>by injection h,by show(Option.elim H[i]? none λa=>oC none a (dict:=λl _=>some l))=_;exact af h rfl⟩
noncomputable def ajr:aD->PyData
 |none=>.none
 |some (k,a,p,m)=>.tuple [.int k,.int a,.int p,.bool m]
theorem abY:∀q:aD,eO .NotEq (bU q) (bU q) H=.ok (.E false) H
 |none=>nT uc (d:=.none) rfl rfl rfl
 |some (k,a,p,m)=>nT pC (d:=ajr<|some (k,a,p,m)) rfl rfl rfl
theorem aaG:∀(n k a p:Nat) (m:Bool),mN b n k a p m=some (some (l,f,o,r))->a<=b.length->f<=b.length:=by
 intro n
 induction n with
 |zero=>intro k a p m h;exact ar h
 |succ n d=>
  intro k a p m h e;unfold mN at h
  split at h
  ·cases h;exact e
  ·generalize hs:eZ b a k=g at h
   cases g with
   |none=>haveI i:=Qb h;injection i
   |some s=>
    dsimp only at h
    split at h
    ·haveI c:=Qb h;injection c
    split at h
    ·cases h;exact e
    ·rename_i j
     haveI q:=(pD hs j).2.1
     split at h
     ·exact d _ _ _ _ h q
     ·exact d _ _ _ _ h q
theorem ue(h:eA kd b=some (some (k,a,p,m))):a<=b.length:=by
 unfold eA at h
 split at h
 ·unfold ji at h
  split at h
  ·rename_i c;injection h with z19;injection z19 with z20;injection z20 with z21 z22;subst z21;injection z22 with z23 z24;subst z23;injection z24 with z25 z26;subst z25;subst z26;exact c.2.2.2
  ·injection h with z27;injection z27
 split at h
 ·unfold iQ at h
  split at h
  ·rename_i c;exact aaG _ _ _ _ _ h c.1
  ·haveI d:=Qb h;injection d
 ·injection h with z29;injection z29
theorem yv(b:List UInt8):rG (ay b)=some b:=by
 induction b with
 |nil=>rfl
 |cons x b r=>
  haveI:=x.toNat_lt;show(if 0<=(x.toNat:Int)/\(x.toNat:Int)<256 then(rG<|ay b).map (UInt8.ofNat (x.toNat:Int).toNat::·) else none)=_;refine af (Qh ⟨Zh x.toNat,by lia⟩ ..)<|af r<|af (Int.toNat_natCast ..) ?_;show some (UInt8.ofNat x.toNat::b)=_;exact af UInt8.ofNat_toNat rfl
theorem kS(h:H[i]?=some (.A<|ay b))(a:b.length<=1000):jb "bytes" [.B i] H=.ok (.G b) H:=by
 show(bX i H).Aa _=_;refine af (bO h) ?_;show cs (rG<|ay b) _ H=_;exact af (yv ..)<|bT (show b.length<=16777216 by exact Qa ‹_› lb)
theorem rg(h:H[i]?=some (.D b))(a:b.length<=1000):jb "bytes" [.B i] H=.ok (.G b) H:=by
 show(bX i H).Aa _=_;exact af (bO h)<|bT (show b.length<=16777216 by lia)
theorem yw:eO .NotEq (.G b) (.G b) H=.ok (.E false) H:=by
 show bJ.ok (V.E<|!decide (b=b)) H=_;exact af (QY rfl) rfl
structure kT(H:Hp)(pk:V)(kd:Nat)(b lk:List UInt8)(q:aD)(d1 d2:Nat):Prop where
 Aa:aY H pk "data"=some (.B d1)
 Ad:aY H pk "link"=some (.B d2)
 Ac:aY H pk "kind"=some (.A kd)
 l4:aY H pk "l4"=some (l4V q)
 Ag:aY H pk "off"=some (tQ b.length q)
 Ab:aY H pk "place"=some (hU q)
 Ae:H[d1]?=some (.D b)
 Af:H[d2]?=some (.D lk)
noncomputable def yy:aD->V|none=>.A (-1)|some (_,a,p,_)=>.A<|if 0<p then -1 else a
theorem afj:∀{q:aD},eA kd b=some q->tQ b.length q=yy q
 |none,_=>rfl
 |some (k,a,p,m),h=>by
  haveI:=ue h;show(if p=0/\a<=b.length then V.A a else .A (-1))=.A (if 0<p then -1 else a)
  by_cases z:p=0
  ·exact af (Qh ⟨z,this⟩)<|af (Qe<|by lia) rfl
  ·exact af (Qe<|λq=>z q.1)<|af (Qh<|Nat.pos_of_ne_zero z) rfl
def kU(c:CF):Prop:=∀H d (kd e f:Nat) b a q g h,kT H d kd b a q g h->H[e]?=some (.A<|ay b)->H[f]?=some (.A<|ay a)->eA kd b=some q->b.length<=200->a.length<=200->c 59 [d,.A kd,.B e,.B f,bU q] H=.ok (.E true) H
theorem adZ{kd:Nat}(q:aD):eO .Eq (.F [.A kd,l4V q,yy q,hU q]) (.F [.A kd,l4V q,yy q,hU q]) H=.ok (.E true) H:=by
 cases q with
 |none=>exact eq_same pC (d:=.tuple [.int kd,.int<|-1,.int<|-1,.int 0]) rfl rfl rfl
 |some q=>exact eq_same pC (d:=.tuple [.int kd,.int q.1,.int<|if 0<q.2.2.1 then -1 else q.2.1,.int q.2.2.1]) rfl rfl rfl
theorem yA(r:c 18=cU (pX iR))(s:c 22=cU gq):kU (λx=>aM c x):=by
 intro H f kd g k b M q N P I n t e l y;have C:∀q:aD,ak c (.O (.I .Is (.A 4) .J) (.D [.T<|.B 1,.B 0,.T<|.B 1])<|.D [.H (.A 4)<|.B 0,.H (.A 4)<|.B 2,.O (.I .Gt (.H (.A 4)<|.B 2)<|.B 0) (.T<|.B 1)<|.H (.A 4)<|.B 1]) (λj=>[f,.A kd,.B g,.B k,bU q][j]?) H=.ok (.F [l4V q,hU q,yy q]) H:=by
  intro q
  cases q with
  |none=>exact cf (fP (v:=.C) (aa rfl) rfl)<|bf<|ae (jL rfl)<|ae rfl<|ae (jL rfl) aj
  |some q=>
   refine ci (fP (v:=bU<|some q) (aa rfl) rfl)<|bf<|ae (aJ (x:=bU<|some q) (aa rfl) rfl<|bu (i:=0) rfl)<|ae (aJ (x:=bU<|some q) (aa rfl) rfl<|bu (i:=2) rfl)<|ae ?_ aj;haveI A:ak c (.H (.A 4)<|.B 2) (λj=>[f,.A kd,.B g,.B k,bU<|some q][j]?) H=.ok (.A q.2.2.1) H:=aJ (x:=bU<|some q) (aa rfl) rfl<|bu (i:=2) rfl
   by_cases z:0<q.2.2.1
   ·exact af (show yy (some q)=.A (-1) from by show V.A (if 0<q.2.2.1 then -1 else q.2.1)=_;rw [Qh z])<|cf (am A rfl<|alB (n:=0) z)<|jL rfl
   ·exact af (show yy (some q)=.A q.2.1 from by show V.A (if 0<q.2.2.1 then -1 else q.2.1)=_;rw [Qe z])<|ci (am A rfl<|alC (n:=0)<|QH.mp ‹_›)<|aJ (x:=bU<|some q) (aa rfl) rfl<|bu (i:=1) rfl
 haveI d:=I.Ag;rw [afj e] at d;generalize a:(Lc.Aa (Lc.Aa (Lc.Aa (λj=>[f,.A kd,.B g,.B k,bU q][j]?) 5<|l4V q) 6<|hU q) 7<|yy q)=l';haveI m:l' 0=some f:=a ▸rfl;haveI o:l' 1=some (.A kd):=a ▸rfl;haveI u:l' 2=some (.B g):=a ▸rfl;haveI D:l' 3=some (.B k):=a ▸rfl;haveI B:l' 4=some (bU q):=a ▸rfl;have E:l' 5=some (l4V q):=a ▸rfl;have F:l' 6=some (hU q):=a ▸rfl;have G:l' 7=some (yy q):=a ▸rfl;haveI J:aN c (.A (.D [.A 5,.A 6,.A 7])<|.O (.I .Is (.A 4) .J) (.D [.T<|.B 1,.B 0,.T<|.B 1])<|.D [.H (.A 4)<|.B 0,.H (.A 4)<|.B 2,.O (.I .Gt (.H (.A 4)<|.B 2)<|.B 0) (.T<|.B 1)<|.H (.A 4)<|.B 1]) (λj=>[f,.A kd,.B g,.B k,bU q][j]?) H=.ok (.Aa,l') H:=
  cm (C q) (fc rfl<|aS rfl<|aS rfl<|aS rfl<|by exact cI a cZ)
 have p:∀{i j:Nat} {b:List UInt8},l' j=some (.B i)->H[i]?=some (.A<|ay b)->b.length<=200->ak c (.K "bytes" [.A j]) l' H=.ok (.G b) H:=λh n t=>bh (ae (aa h) aj)<|kS n<|aU t;have K:bj c (.P true [.I .Eq (.A 1)<|.B 2048,.I .NotEq (.G (.F 18) [.K "bytes" [.A 2]])<|.A 4]) l' H=.ok false H:=by
  by_cases z:kd=2048
  ·have v:ji b=q:=by unfold eA at e;rw [Qh z] at e;exact Qb e
   exact bD (am (aa o) rfl<|eq_t (n:=2048) z)<|cu (d:=true)<|am (av (ae (p u n l) aj)<|abZ r (b:=b) rfl l) (aa B) (by show eO .NotEq (bU<|ji b) (bU q) H=_;exact af v<|abY q)
  ·exact cu (d:=true)<|am (aa o) rfl<|eq_f (n:=2048) z
 have L:bj c (.P true [.I .Eq (.A 1)<|.B 34525,.I .NotEq (.G (.F 22) [.K "bytes" [.A 2]])<|.A 4]) l' H=.ok false H:=by
  by_cases z:kd=34525
  ·haveI w:iQ b=some q:=by unfold eA at e;rw [Qe<|aeC<|Qk<|QR z,Qh z] at e;exact e
   exact bD (am (aa o) rfl<|eq_t (n:=34525) z)<|cu (d:=true)<|am (av (ae (p u n l) aj)<|yz s (b:=b) rfl l w) (aa B)<|abY q
  ·exact cu (d:=true)<|am (aa o) rfl<|eq_f (n:=34525) z
 apply aE (fd:=dT) (vs:=[f,.A kd,.B g,.B k,bU q]) rfl rfl;refine ah J<|ah (aH<|bD K<|bD L fL)<|ah (aH<|bD (am (bh (ae (bB (aa m) I.Aa) aj)<|rg I.Ae<|aU l) (p u n l) yw)<|bD (am (bh (ae (bB (aa m) I.Ad) aj)<|rg I.Af<|aU y) (p D t y) yw) fL)<|aI<|ia (bf<|ae (bB (aa m) I.Ac)<|ae (bB (aa m) I.l4)<|ae (bB (aa m) d)<|ae (bB (aa m) I.Ab) aj) (bf<|ae (aa o)<|ae (aa E)<|ae (aa G)<|ae (aa F) aj) ?_
 exact adZ q
def rh(c:CF):Prop:=∀H (i:Nat) es ep n f,H[i]?=some (.B es ep)->aB n es=some f->c 12 [.B i,.D n] H=.ok f H
theorem agN:rh (λx=>aM c x):=by
 intro H i es ep n f a b;apply aE (fd:=fV) (vs:=[.B i,.D n]) rfl rfl;haveI d:eO .NotIn (.D n) (.B i) H=.ok (.E false) H:=by
  show zB ((inA (.D n) (.B i) H).map (!·)) H=_;exact af (show inA (.D n) (.B i) H=some true from by show(Option.elim H[i]? none λe=>oC none e (dict:=λl _=>some<|vi n l))=_;rw [a];show some (vi n es)=_;rw [kG,b];rfl) rfl
 exact ah (aH<|am (aa rfl) (aa rfl) d)<|aI<|aJ (aa rfl) (aa rfl)<|jF a b
def nU(c:CF):Prop:=∀H n,c 13 [io n] H=.ok (.E false) H
theorem aea:nU (λx=>aM c x):=by
 intro H n;apply aE (fd:=iC) (vs:=[io n]) rfl rfl;exact aI<|ia (aJ (aa rfl) rfl<|bu (i:=0) rfl) (y:=.F<|(["mask","or","xor","shl","shr"]:List Str).map V.D) rfl<|so (by decide+kernel)
def ri(c:CF):Prop:=∀H (i:Nat) es ep n f,H[i]?=some (.B es ep)->aB n es=some f->c 14 [.B i,io n,.D "size"] H=.ok f H
theorem agO(a:rh c)(b:nU c):ri (λx=>aM c x):=by
 intro H i es ep n f e g;apply aE (fd:=fW) (vs:=[.B i,io n,.D "size"]) rfl rfl;haveI d:ak c (.H (.A 1)<|.B 0) (λj=>[V.B i,io n,.D "size"][j]?) H=.ok (.D "field") H:=aJ (aa rfl) rfl<|bu (i:=0) rfl;haveI w:aN c (.H (.G (.F 13) [.A 1]) [.A (.A 1)<|.H (.A 1)<|.B 1]) (λj=>[V.B i,io n,.D "size"][j]?) H=.ok (.Aa,λj=>[V.B i,io n,.D "size"][j]?) H:=by show iq (bj c _) (au c _) 100 _ _=_;exact pP (n:=99)<|sv (ae (aa rfl) aj)<|b H n
 exact ah w<|ah (aH<|am d rfl<|eq_str (by decide+kernel) (by decide+kernel)<|lx<|by decide+kernel)<|ah (aH<|am (k:=false) d rfl<|tS (t:=true) (by decide+kernel) (by decide+kernel)<|iZ rfl)<|aI<|av (ae (aa rfl)<|ae (aJ (aa rfl) rfl<|bu (i:=1) rfl) aj)<|a H i es ep n f e g
noncomputable def sR(a b:Nat):V:=.A<|((a+b+7)/ 8:Nat)
def sS(c:CF):Prop:=∀H (i:Nat) es ep n g a (f:Nat) e k b,H[i]?=some (.B es ep)->aB n es=some (.F [.D g,a,.A f,e,k])->PyData.strOk g=true->(if g="payload" then ∃(x y:V) (d:Nat),k=.F [x,y,.A d]/\b=d%8 else b=0)->c 15 [.B i,io n] H=.ok (sR b f) H
theorem ajs(h:ri c):sS (λx=>aM c x):=by
 intro H i es ep n b a d e k f o p hs g;haveI u:=h H i es ep n _ o p;haveI q:ak c (.O (.I .Eq (.H (.A 2)<|.B 0)<|.C "payload") (.E .Mod (.H (.H (.A 2)<|.B 4)<|.B 2)<|.B 8)<|.B 0) (Lc.Aa (λj=>[V.B i,io n][j]?) 2<|.F [.D b,a,.A d,e,k]) H=.ok (.A f) H:=by
  have m:ak c (.H (.A 2)<|.B 0) (Lc.Aa (λj=>[V.B i,io n][j]?) 2<|.F [.D b,a,.A d,e,k]) H=.ok (.D b) H:=aJ (aa rfl) rfl<|bu (i:=0) rfl
  by_cases z:b="payload"
  ·rw [Qh z] at g;refine oq g λx y l r s=>?_;clear g;subst r;subst s;exact cf (am m rfl<|eq_str hs (by decide+kernel)<|iZ z)<|aq (aJ (aJ (aa rfl) rfl<|bu (i:=4) rfl) rfl<|bu (i:=2) rfl) rfl<|bL dd
  ·rw [Qe z] at g;subst g;exact ci (am m rfl<|eq_str hs (by decide+kernel)<|lx z) rfl
 apply aE (fd:=kr) (vs:=[.B i,io n]) rfl rfl;exact ah (az<|av (ae (aa rfl)<|ae (aa rfl)<|ae rfl aj) u)<|ah (aH<|fP (v:=.F [.D b,a,.A d,e,k]) (aa rfl) rfl)<|ah (az q)<|aI<|aq (aq (aq (aa rfl) (aJ (aa rfl) rfl<|bu (i:=2) rfl) rfl) rfl rfl) rfl<|eY ⟨dd,lb⟩
theorem aeb{f:Type}{item:f->V}{full:List f}{kv:f->Str×V}(P:Lc->Prop)(u:full.length<=100)
 (hs:∀x∈full,∀l D,P l->D.1.length<=900->∃a b,jc c t (item x) l (H++[DP.o D])=.ok a (H++[DP.o D])/\au c sb a (H++[DP.o D])=.ok (.Aa,b) (H++[(D.Aa (kv x).1 (kv x).2).o])/\P b)(j:P l)(m:D.1.length+full.length<=900):
 ∃l',jK c t (dO<|.F<|full.map item) (au c sb) 1001 0 l (H++[D.o])=.ok (.Aa,l') (H++[(cK D<|full.map kv).o])/\P l':=by
 obtain⟨l',H',e,D',rfl,g,_,h⟩:=il (c:=c) (t:=t) (src:=dO<|.F<|full.map item) (step:=au c sb) (item:=item) (full:=full)
  (λrest d H'=>∃D':DP,H'=H++[D'.o]/\cK D' (rest.map kv)=cK D (full.map kv)/\D'.1.length+rest.length<=900/\P d)
  (λk d H' rest _=>by show bJ.ok (full.map item)[k]? H'=_;exact af (QD) rfl)
  (λx rest d H' n o=>zc o λD' p g i h=>by
   subst p;rw [QG] at i;refine dN (hs x n d D' h<|Qa (Qq _ _) ‹_›) λa b q r s=>aeB a _ b _ q r<|pZ (D'.Aa (kv x).1 (kv x).2) rfl g ?_ s;haveI:=eM (d:=D') (x:=(kv x).1) (v:=(kv x).2);exact st1 this i)
  full [] l (H++[D.o]) 1001 rfl (Qv ‹_› lb) (pZ D rfl rfl m j)
 exact cI g<|bv l' e h
theorem sT{D:DP}(a:l j=some (.B H.length))(b:D.1.length<=900)(d:ak c i l (H++[D.o])=.ok (.D w) (H++[D.o]))(f:ak c e l (H++[D.o])=.ok x (H++[D.o])):
 aN c (.A (.B (.A j) i) e) l (H++[D.o])=.ok (.Aa,l) (H++[(D.Aa w x).o]):=cm f<|nM (aa a) d atL (Qa b lb)<|ano (o':=(D.Aa w x).o)
noncomputable abbrev Row:=Str×Nat×Nat×Str
noncomputable def uf(r:Row):V:=.F [.D r.1,.A r.2.1,.A r.2.2.1,.D r.2.2.2]
noncomputable def aos(p b:Str)(r:Row):V:=.F [.D "payload",.D r.2.2.2,.A r.2.2.1,.D "big",.F [.D p,.D b,.A r.2.1]]
def ajt(p b:Str)(r:Row):Str×V:=(p++" "++r.1,aos p b r)
def grp(g:Str×Str×List Row):List (Str×V):=g.2.2.map<|ajt g.1 g.2.1
noncomputable def nV:List (Str×Str×List Row):=[("ether","link",[("daddr",0,48,"ether_addr"),("saddr",48,48,"ether_addr"),("type",96,16,"ether_type")]),
 ("vlan","link",[("pcp",112,3,"integer"),("dei",115,1,"integer"),("id",116,12,"integer"),("type",128,16,"ether_type")]),
 ("arp","network",[("htype",0,16,"integer"),("ptype",16,16,"ether_type"),("hlen",32,8,"integer"),("plen",40,8,"integer"),("operation",48,16,"arp_op"),("saddr ether",64,48,"ether_addr"),("saddr ip",112,32,"ipv4_addr"),("daddr ether",144,48,"ether_addr"),("daddr ip",192,32,"ipv4_addr")]),
 ("ip","network",[("version",0,4,"integer"),("hdrlength",4,4,"integer"),("dscp",8,6,"dscp"),("ecn",14,2,"ecn"),("length",16,16,"integer"),("id",32,16,"integer"),("frag-off",48,16,"integer"),("ttl",64,8,"integer"),("protocol",72,8,"inet_proto"),("checksum",80,16,"integer"),("saddr",96,32,"ipv4_addr"),("daddr",128,32,"ipv4_addr")]),
 ("ip6","network",[("version",0,4,"integer"),("dscp",4,6,"dscp"),("ecn",10,2,"ecn"),("flowlabel",12,20,"integer"),("length",32,16,"integer"),("nexthdr",48,8,"inet_proto"),("hoplimit",56,8,"integer"),("saddr",64,128,"ipv6_addr"),("daddr",192,128,"ipv6_addr")]),
 ("tcp","transport",[("sport",0,16,"inet_service"),("dport",16,16,"inet_service"),("sequence",32,32,"integer"),("ackseq",64,32,"integer"),("doff",96,4,"integer"),("reserved",100,4,"integer"),("flags",104,8,"tcp_flag"),("window",112,16,"integer"),("checksum",128,16,"integer"),("urgptr",144,16,"integer")]),
 ("udp","transport",[("sport",0,16,"inet_service"),("dport",16,16,"inet_service"),("length",32,16,"integer"),("checksum",48,16,"integer")]),
 ("th","transport",[("sport",0,16,"inet_service"),("dport",16,16,"inet_service")]),
 ("icmp","transport",[("type",0,8,"icmp_type"),("code",8,8,"icmp_code"),("checksum",16,16,"integer"),("id",32,16,"integer"),("sequence",48,16,"integer"),("gateway",32,32,"ipv4_addr"),("mtu",48,16,"integer")]),
 ("icmpv6","transport",[("type",0,8,"icmpv6_type"),("code",8,8,"icmpv6_code"),("checksum",16,16,"integer"),("id",32,16,"integer"),("sequence",48,16,"integer"),("mtu",32,32,"integer")])]
def iS(i:Nat):List (Str×V):=((nV[i]?).map grp).getD []
def PG(c:CF):Prop:=∀H (p b:Str) (a:List Row),p.length<=100->a.all (λr:Row=>decide (r.1.length<=100))=true->a.length<=50->c 0 [.D p,.D b,.F<|a.map uf] H=.ok (.B H.length) (H++[(cK ([],some 0)<|a.map<|ajt p b).o])
theorem amB:PG (λx=>aM c x):=by
 intro H p b a i k m;refine aT (aeb (c:=c) (t:=.D [.A 4,.A 5,.A 6,.A 7]) (sb:=[.A (.B (.A 3)<|.E .Add (.E .Add (.A 0)<|.C " ")<|.A 4)<|.D [.C "payload",.A 7,.A 6,.C "big",.D [.A 0,.A 1,.A 5]]]) (H:=H) (item:=uf) (full:=a) (kv:=ajt p b) (λl=>l 0=some (.D p)/\l 1=some (.D b)/\l 3=some (.B H.length)) (Qa ‹_› lb)
  (λr n l D o s=>gx o λd f g=>ahU _ _ (fc rfl<|aS rfl<|aS rfl<|aS rfl<|aS rfl cZ) (ah (sT g s (abS (i:=0) (j:=4) i (Ql<|Qx.mp k r n) d rfl)<|bf<|ae rfl<|ae (aa rfl)<|ae (aa rfl)<|ae rfl<|ae (bf<|ae (aa d)<|ae (aa f)<|ae (aa rfl) aj) aj) aV) d f g)
  (D:=([],some 0)) (l:=Lc.Aa (λj=>[V.D p,.D b,.F<|a.map uf][j]?) 3<|.B H.length) ⟨rfl,rfl,rfl⟩ (by show 0+_<=_;exact aU<|Qf (Qd 0) m)) λl' e q=>?_
 apply aE (fd:=eQ) (vs:=[.D p,.D b,.F<|a.map uf]) rfl rfl;exact ah (az<|fb (L:=[]) (k:=0) rfl rfl|> λh=>by rw [QF] at h;exact h)<|ah (eF (v:=.F<|a.map uf) (aa rfl) e)<|aI<|aa q.2.2
def FT(c:CF)(i:Nat)(L:List (Str×V)):Prop:=∀H,∃G ep,c i [] H=.ok (.B H.length) (H++(.B L ep::G))
theorem aaH(h:H[i]?=some (.B l ep)):we (.B i) name [.B j] H=be (name="update") (AM.Aa (bX j)<|λa=>oC AM.Ac a (dict:=λr _=>be (j≠i/\l.length+r.length<16777216)<|AM.Aa (ml i<|.B (aZ r l) none) λ_=>AM.Ab .C)) H:=by
 show(bX i H).Aa _=_;exact af (bO h) rfl
theorem yB(f:l 0=some (.B H.length))(g:ak c e l (H++(.B L ep::G))=.ok (.B (H++(.B L ep::G)).length) ((H++(.B L ep::G))++(.B R a::b)))(h:L.length+R.length<16777216):
 aN c (.D<|.R (.A 0) "update" [e]) l (H++(.B L ep::G))=.ok (.Aa,l) (H++(.B (aZ R L) none::(G++(.B R a::b)))):=by
 haveI i:(H++(O.B L ep::G))[H.length]?=some (.B L ep):=bn (k:=0);haveI d:((H++(O.B L ep::G))++(O.B R a::b))[H.length]?=some (.B L ep):=by exact af (Qn ..)<|bn (k:=0)
 haveI j:((H++(O.B L ep::G))++(O.B R a::b))[(H++(O.B L ep::G)).length]?=some (.B R a):=bn (k:=0);haveI k:(H++(O.B L ep::G)).length≠H.length:=by(refine af Qi<|af QG ?_);lia
 refine jm (v:=.C)<|nB (aa f) ?_ (ae g aj) ?_
 ·show(bX H.length _).Aa _=_;exact af (bO i)<|bT (p:=("update":Str)="get"∨("update":Str)="update")<|.inr rfl
 ·refine(aaH d).trans<|(bT (p:=("update":Str)="update") rfl).trans ?_;show(bX (H++(O.B L ep::G)).length _).Aa _=_;refine af (bO j)<|(bT ⟨k,h⟩).trans ?_;show(ml H.length _ _).Aa _=_;exact af (lu d ..)<|af (Qn ..)<|af (show(H++(O.B L ep::G++(O.B R a::b))).set H.length (.B (aZ R L) none)=H++(.B (aZ R L) none::(G++(.B R a::b))) from fO (k:=0) ..) rfl
def jN:List (Str×V):=aZ (iS 2)<|aZ (iS 1)<|iS 0
def kV:List (Str×V):=iS 3
def mh:List (Str×V):=iS 4
def nW:List (Str×V):=iS 5
def pE:List (Str×V):=iS 6
def rj:List (Str×V):=iS 7
def ug:List (Str×V):=aZ (iS 9)<|iS 8
theorem pF(P:PG c)(i:Nat)(f:nV[i]?=some g)(a:cK ([],some 0) (iS i)=(iS i,some (iS i).length))(H:Hp):c 0 [.D g.1,.D g.2.1,.F<|g.2.2.map uf] H=.ok (.B H.length) (H++[.B (iS i)<|some (iS i).length]):=by
 haveI d:nV.all (λg=>decide (g.1.length<=100)&&(g.2.2.all (λr:Row=>decide (r.1.length<=100))&&decide (g.2.2.length<=50)))=true:=by decide+kernel
 haveI d:=Qs.mp<|Qx.mp d g<|Zp f;haveI b:=Qs.mp d.2;haveI e:=P H g.1 g.2.1 g.2.2 (Ql d.1) b.1<|Ql b.2;haveI h:iS i=g.2.2.map (ajt g.1 g.2.1):=by unfold iS;exact af f rfl
 rw [←h,a] at e;exact e
theorem ft1(P:PG c):FT (λx=>aM c x) 1 jN:=by
 intro H;refine fK ([.B (iS 1)<|some (iS 1).length,.B (iS 2)<|some (iS 2).length]) none ?_;apply aE (fd:=fS) (vs:=[]) rfl rfl;exact ah (az<|av (ae rfl<|ae rfl<|ae rfl aj)<|pF P 0 rfl (by kernel_rfl) H)<|ah (yB rfl (av (ae rfl<|ae rfl<|ae rfl aj)<|pF P 1 rfl (by kernel_rfl) _)<|by decide+kernel)<|ah (yB rfl (av (ae rfl<|ae rfl<|ae rfl aj)<|pF P 2 rfl (by kernel_rfl) _)<|by decide+kernel)<|aI<|aa rfl
theorem ft2(P:PG c):FT (λx=>aM c x) 2 kV:=by
 intro H;refine fK ([]) (some (iS 3).length) ?_;apply aE (fd:=iz) (vs:=[]) rfl rfl;exact aI<|av (ae rfl<|ae rfl<|ae rfl aj)<|pF P 3 rfl (by kernel_rfl) H
theorem ft3(P:PG c):FT (λx=>aM c x) 3 mh:=by
 intro H;refine fK ([]) (some (iS 4).length) ?_;apply aE (fd:=gL) (vs:=[]) rfl rfl;exact aI<|av (ae rfl<|ae rfl<|ae rfl aj)<|pF P 4 rfl (by kernel_rfl) H
theorem ft4(P:PG c):FT (λx=>aM c x) 4 nW:=by
 intro H;refine fK ([]) (some (iS 5).length) ?_;apply aE (fd:=gM) (vs:=[]) rfl rfl;exact aI<|av (ae rfl<|ae rfl<|ae rfl aj)<|pF P 5 rfl (by kernel_rfl) H
theorem ft5(P:PG c):FT (λx=>aM c x) 5 pE:=by
 intro H;refine fK ([]) (some (iS 6).length) ?_;apply aE (fd:=gN) (vs:=[]) rfl rfl;exact aI<|av (ae rfl<|ae rfl<|ae rfl aj)<|pF P 6 rfl (by kernel_rfl) H
theorem ft6(P:PG c):FT (λx=>aM c x) 6 rj:=by
 intro H;refine fK ([]) (some (iS 7).length) ?_;apply aE (fd:=iA) (vs:=[]) rfl rfl;exact aI<|av (ae rfl<|ae rfl<|ae rfl aj)<|pF P 7 rfl (by kernel_rfl) H
theorem ft7(P:PG c):FT (λx=>aM c x) 7 ug:=by
 intro H;refine fK ([.B (iS 9)<|some (iS 9).length]) none ?_;apply aE (fd:=fT) (vs:=[]) rfl rfl;exact ah (az<|av (ae rfl<|ae rfl<|ae rfl aj)<|pF P 8 rfl (by kernel_rfl) H)<|ah (yB rfl (av (ae rfl<|ae rfl<|ae rfl aj)<|pF P 9 rfl (by kernel_rfl) _)<|by decide+kernel)<|aI<|aa rfl
noncomputable abbrev uh:=Str×Nat×Str×Str
noncomputable def lN:List uh:=[("length",32,"host","integer"),("protocol",16,"big","ether_type"),("nfproto",8,"big","nf_proto"),("l4proto",8,"big","inet_proto"),("mark",32,"host","mark"),("priority",32,"host","integer"),("iif",32,"host","iface_index"),("oif",32,"host","iface_index"),("iifname",128,"big","ifname"),("oifname",128,"big","ifname"),("iiftype",16,"host","integer"),("oiftype",16,"host","integer"),("pkttype",8,"big","pkt_type")]
noncomputable def ctR:List uh:=[("state",32,"host","ct_state"),("status",32,"host","ct_status"),("direction",8,"big","ct_dir"),("mark",32,"host","mark"),("zone",16,"host","integer"),("expiration",32,"host","time"),("l3proto",8,"big","nf_proto"),("protocol",8,"big","inet_proto")]
noncomputable abbrev afk:=Str×Str×Nat×Str
noncomputable def pG:List afk:=[("ip saddr","saddr4",32,"ipv4_addr"),("ip daddr","daddr4",32,"ipv4_addr"),("ip6 saddr","saddr6",128,"ipv6_addr"),("ip6 daddr","daddr6",128,"ipv6_addr"),("proto-src","proto-src",16,"inet_service"),("proto-dst","proto-dst",16,"inet_service")]
noncomputable def kW(r:uh):V:=.F [.D r.1,.A r.2.1,.D r.2.2.1,.D r.2.2.2]
noncomputable def kX(r:afk):V:=.F [.D r.1,.D r.2.1,.A r.2.2.1,.D r.2.2.2]
def yC(r:uh):Str×V:=(jH r.1,.F [.D "meta",.D r.2.2.2,.A r.2.1,.D r.2.2.1,.D r.1])
noncomputable def ctK(r:uh):Str×V:=("ct "++r.1,.F [.D "ct",.D r.2.2.2,.A r.2.1,.D r.2.2.1,.F [.D r.1,.D ""]])
noncomputable def acb(w:Str)(r:afk):Str×V:=("ct "++w++" "++r.1,.F [.D "ct",.D r.2.2.2,.A r.2.2.1,.D "big",.F [.D r.2.1,.D w]])
def rm:List (Str×V):=lN.map yC
def ui:List (Str×V):=ctR.map ctK++mf.flatMap λw=>pG.map<|acb w
theorem acd{l:List uh}(h:l.all (λr=>decide (r.1.length<=100))=true)(m:r∈l):r.1.length<=100:=Ql<|Qx.mp h r m
theorem ace(a:p.length<=100)(b:w.length<=100)(d:l j=some (.D w)):ak c (.E .Add (.C p)<|.A j) l H=.ok (.D<|p++w) H:=aq rfl (aa d)<|gB<|aU<|Qf a b
theorem ft8{c:CF}:FT (λx=>aM c x) 8 rm:=by
 intro H;refine aT (aeb (c:=c) (t:=.D [.A 2,.A 3,.A 4,.A 5]) (sb:=[.A (.B (.A 1)<|.E .Add (.C "meta ")<|.A 2)<|.D [.C "meta",.A 5,.A 3,.A 4,.A 2]]) (H:=H) (item:=kW) (full:=lN) (kv:=yC) (λl=>l 1=some (.B H.length)) lb
  (λr b l D a d=>qe _ _ (fc rfl<|aS rfl<|aS rfl<|aS rfl<|aS rfl cZ) (ah (sT a d (ace (by decide+kernel) (acd (by decide+kernel) b) rfl)<|bf<|ae rfl<|ae (aa rfl)<|ae (aa rfl)<|ae (aa rfl)<|ae (aa rfl) aj) aV) a)
  (D:=([],some 0)) (l:=Lc.Aa (Lc.Aa (λj=>([]:List V)[j]?) 0<|.F<|lN.map kW) 1<|.B H.length) rfl lb) λl' e q=>?_
 rw [show cK ([],some 0) (lN.map yC)=(rm,some 13) from by kernel_rfl] at e;refine fK ([]) (some 13) ?_;apply aE (fd:=fU) (vs:=[]) rfl rfl;exact ah (az rfl)<|ah (az<|fb (L:=[]) (k:=0) rfl rfl|> λh=>by rw [QF] at h;exact h)<|ah (eF (v:=.F<|lN.map kW) (aa rfl) e)<|aI<|aa q
theorem ft9{c:CF}:FT (λx=>aM c x) 9 ui:=by
 intro H;refine zc (aeb (c:=c) (t:=.D [.A 3,.A 4,.A 5,.A 6]) (sb:=[.A (.B (.A 2)<|.E .Add (.C "ct ")<|.A 3)<|.D [.C "ct",.A 6,.A 4,.A 5,.D [.A 3,.C ""]]]) (H:=H) (item:=kW) (full:=ctR) (kv:=ctK) (λl=>l 0=some (.F<|ctR.map kW)/\l 1=some (.F<|pG.map kX)/\l 2=some (.B H.length)) lb
  (λr g l D i d=>gx i λA f b=>ahU _ _ (fc rfl<|aS rfl<|aS rfl<|aS rfl<|aS rfl cZ) (ah (sT b d (ace (by decide+kernel) (acd (by decide+kernel) g) rfl)<|bf<|ae rfl<|ae (aa rfl)<|ae (aa rfl)<|ae (aa rfl)<|ae (bf<|ae (aa rfl)<|ae rfl aj) aj) aV) A f b)
  (D:=([],some 0)) (l:=Lc.Aa (Lc.Aa (Lc.Aa (λj=>([]:List V)[j]?) 0<|.F<|ctR.map kW) 1<|.F<|pG.map kX) 2<|.B H.length) ⟨rfl,rfl,rfl⟩ lb) λf t G k m=>?_
 have a:∀(w:Str) (D:DP) (l:Lc),w.length<=20->D.1.length<=100->l 1=some (.F<|pG.map kX)->l 2=some (.B H.length)->∃l',au c [.E (.D [.A 8,.A 3,.A 4,.A 6]) (.A 1) [.A (.B (.A 2)<|.E .Add (.E .Add (.E .Add (.C "ct ")<|.A 7)<|.C " ")<|.A 8)<|.D [.C "ct",.A 6,.A 4,.C "big",.D [.A 3,.A 7]]]] (l.Aa 7<|.D w) (H++[D.o])=.ok (.Aa,l') (H++[(cK D<|pG.map<|acb w).o])/\l' 1=some (.F<|pG.map kX)/\l' 2=some (.B H.length):=by
  intro w D l n d u B;haveI o:(Str.ofString "ct ").length=3:=by decide+kernel
  haveI v:(Str.ofString " ").length=1:=by decide+kernel
  obtain⟨l',e,q,k,m⟩:=aeb (c:=c) (t:=.D [.A 8,.A 3,.A 4,.A 6]) (sb:=[.A (.B (.A 2)<|.E .Add (.E .Add (.E .Add (.C "ct ")<|.A 7)<|.C " ")<|.A 8)<|.D [.C "ct",.A 6,.A 4,.C "big",.D [.A 3,.A 7]]]) (H:=H) (item:=kX) (full:=pG) (kv:=acb w) (λl=>l 7=some (.D w)/\l 1=some (.F<|pG.map kX)/\l 2=some (.B H.length)) lb
   (λr g l D i d=>gx i λp f b=>by
    have s:pG.all (λr=>decide (r.1.length<=100))=true:=by decide+kernel
    haveI s:r.1.length<=100:=Ql<|Qx.mp s r g;exact ahU _ _ (fc rfl<|aS rfl<|aS rfl<|aS rfl<|aS rfl cZ) (ah (sT b d (aq (aq (aq (x:=.D "ct ") rfl (aa p)<|gB<|by exact af o<|aU<|Qf (Qd 3) n) (y:=.D " ") rfl<|gB<|by(refine af lL<|af o<|af v ?_);exact aU<|Qf (Qf (Qd 3) n)<|Qd 1) (aa rfl)<|gB<|by(refine af lL<|af lL<|af o<|af v ?_);exact aU<|Qf (Qf (Qf (Qd 3) n)<|Qd 1) s)<|bf<|ae rfl<|ae (aa rfl)<|ae (aa rfl)<|ae rfl<|ae (bf<|ae (aa rfl)<|ae (aa p) aj) aj) aV) p f b)
   (D:=D) (l:=l.Aa 7<|.D w) ⟨rfl,u,B⟩ (by show _+6<=_;exact aU<|Qf d<|Qd 6)
  exact cz l' (ah (eF (v:=.F<|pG.map kX) (aa u) e) aV) k m
 rw [show cK ([],some 0) (ctR.map ctK)=(ctR.map ctK,some 8) from by kernel_rfl] at t;refine eI (a "original" (ctR.map ctK,some 8) f (by decide+kernel) lb k m) λb y C E=>?_;rw [show cK (ctR.map ctK,some 8) (pG.map<|acb "original")=(ctR.map ctK++pG.map (acb "original"),some 14) from by kernel_rfl] at y;refine eI (a "reply" (ctR.map ctK++pG.map (acb "original"),some 14) b (by decide+kernel) lb C E) λI z J F=>?_;rw [show cK (ctR.map ctK++pG.map (acb "original"),some 14) (pG.map<|acb "reply")=(ui,some 20) from by kernel_rfl] at z;refine fK ([]) (some 20) ?_;apply aE (fd:=iB) (vs:=[]) rfl rfl;exact ah (az rfl)<|ah (az rfl)<|ah (az<|fb (L:=[]) (k:=0) rfl rfl|> λh=>by rw [QF] at h;exact h)<|ah (eF (v:=.F<|ctR.map kW) (aa rfl) t)<|ah (eF (v:=.F<|mf.map V.D) rfl<|fH (v:=.D "original") rfl rfl y<|fH (v:=.D "reply") rfl rfl z<|mK rfl)<|aI<|aa F
def anq:List (Str×V):=aZ ui<|aZ rm<|aZ ug<|aZ rj<|aZ pE<|aZ nW<|aZ mh<|aZ kV jN
def aG:List (Str×V):=nV.flatMap grp++(rm++ui)
theorem acf:anq=aG:=by kernel_rfl
def afl(c:CF):Prop:=∀H,∃G,c 10 [] H=.ok (.B H.length) (H++(.B aG none::G))
theorem amC(b:FT c 1 jN)(d:FT c 2 kV)(g:FT c 3 mh)(h:FT c 4 nW)(k:FT c 5 pE)(m:FT c 6 rj)(n:FT c 7 ug)(o:FT c 8 rm)(p:FT c 9 ui):afl (λx=>aM c x):=by
 intro H;have s1:∀{l:Lc} {i:Nat} {L R:List (Str×V)} {ep:Option Nat} {G:List O},FT c i R->l 0=some (.B H.length)->L.length+R.length<16777216->∃q,aN c (.D<|.R (.A 0) "update" [.G (.F i) []]) l (H++(.B L ep::G))=.ok (.Aa,l) (H++(.B (aZ R L) none::q)):=λ{l i L R ep G} f r s=>by
  exact ip (f<|H++(.B L ep::G)) λa t e=>⟨_,yB r (av aj e) s⟩
 refine ip (b H) λu ep v=>bC (s1 (l:=Lc.Aa (λj=>([]:List V)[j]?) 0<|.B H.length) (L:=jN) (ep:=ep) (G:=u) d rfl<|by decide+kernel) λa w=>bC (s1 (l:=Lc.Aa (λj=>([]:List V)[j]?) 0<|.B H.length) (L:=aZ kV jN) (ep:=none) (G:=a) g rfl<|by decide+kernel) λy z=>bC (s1 (l:=Lc.Aa (λj=>([]:List V)[j]?) 0<|.B H.length) (L:=aZ mh<|aZ kV jN) (ep:=none) (G:=y) h rfl<|by decide+kernel) λA B=>bC (s1 (l:=Lc.Aa (λj=>([]:List V)[j]?) 0<|.B H.length) (L:=aZ nW<|aZ mh<|aZ kV jN) (ep:=none) (G:=A) k rfl<|by decide+kernel) λC D=>bC (s1 (l:=Lc.Aa (λj=>([]:List V)[j]?) 0<|.B H.length) (L:=aZ pE<|aZ nW<|aZ mh<|aZ kV jN) (ep:=none) (G:=C) m rfl<|by decide+kernel) λE F=>bC (s1 (l:=Lc.Aa (λj=>([]:List V)[j]?) 0<|.B H.length) (L:=aZ rj<|aZ pE<|aZ nW<|aZ mh<|aZ kV jN) (ep:=none) (G:=E) n rfl<|by decide+kernel) λI J=>bC (s1 (l:=Lc.Aa (λj=>([]:List V)[j]?) 0<|.B H.length) (L:=aZ ug<|aZ rj<|aZ pE<|aZ nW<|aZ mh<|aZ kV jN) (ep:=none) (G:=I) o rfl<|by decide+kernel) λK M=>bC (s1 (l:=Lc.Aa (λj=>([]:List V)[j]?) 0<|.B H.length) (L:=aZ rm<|aZ ug<|aZ rj<|aZ pE<|aZ nW<|aZ mh<|aZ kV jN) (ep:=none) (G:=K) p rfl<|by decide+kernel) λN P=>⟨N,?_⟩;refine cI acf ?_;apply aE (fd:=gO) (vs:=[]) rfl rfl;exact ah (az<|av aj v)<|ah w<|ah z<|ah B<|ah D<|ah F<|ah J<|ah M<|ah P<|aI<|aa rfl
theorem mi{l:List a}(h:l.map f=l.map g):∀x∈l,f x=g x:=List.map_inj_left.mp h
theorem aaI{l:List (Str×V)}:(l.map Prod.fst).Nodup->(k,v)∈l->aB k l=some v:=by
 induction l with
 |nil=>intro _ h;exact absurd h Zx
 |cons p r a=>
  intro n h;show(if p.1=k then some p.2 else aB k r)=_;have n:=List.nodup_cons.mp n;rcases Qz.mp h with e|e
  ·subst e;exact Qh rfl
  ·haveI:p.1≠k:=λq=>n.1 (by exact af q<|Zz.mpr<|bv (k,v) e rfl);exact af (Qe this)<|a n.2 e
noncomputable abbrev anr:=Str×Str×Str×Nat
noncomputable def c20:List anr:=[("ct direction","direction","",8),("ct l3proto","l3proto","",8),("ct protocol","protocol","",8),("ct zone","zone","",16),("ct status","status","",32),("ct mark","mark","",32),("ct expiration","expiration","",32),("ct state","state","",32),
 ("ct original ip saddr","saddr4","original",32),("ct original ip daddr","daddr4","original",32),("ct original ip6 saddr","saddr6","original",128),("ct original ip6 daddr","daddr6","original",128),("ct original proto-src","proto-src","original",16),("ct original proto-dst","proto-dst","original",16),
 ("ct reply ip saddr","saddr4","reply",32),("ct reply ip daddr","daddr4","reply",32),("ct reply ip6 saddr","saddr6","reply",128),("ct reply ip6 daddr","daddr6","reply",128),("ct reply proto-src","proto-src","reply",16),("ct reply proto-dst","proto-dst","reply",16)]
def yD(b:Option cv)(st:V)(key a:Str):V:=if key="state" then st else match b with
 |none=>.C
 |some d=>(aB key<|ct5 d).getD<|iK (if a="reply" then d.rp else d.og) key
def kvP(f:qi->V):List (Str×V):=dc.map λe=>(e.Aa,f e)
def aov(a:Option cv)(st:V):List (Str×V):=c20.map λr=>(r.1,yD a st r.2.1 r.2.2.1)
def aow(a:Str->V):List (Str×V):=lN.map λr=>(jH r.1,a r.1)
def afm(f:qi->V)(a:Option cv)(st:V)(b:Str->V):List (Str×V):=kvP f++(aov a st++aow b)
theorem aju(es:List qi):∀d:DP,es.foldl (fM f) d=cK d (es.map λe=>(e.Aa,f e)):=by
 induction es with
 |nil=>intro _;rfl
 |cons _ es r=>intro _;exact r _
noncomputable def aaJ:List Str:=["saddr4","daddr4","saddr6","daddr6","proto-src","proto-dst"]
theorem yE(q:sq):dG.map (λe=>if e.2.2.1=0∨(e.2.2.1:Int)=q.1 then((aaD q)[e.2.2.2]?).getD .C else .C)=aaJ.map (iK q):=by
 obtain⟨n,a,b,c,d,e⟩:=q
 by_cases h:n=2
 ·subst h;rfl
 by_cases f:n=10
 ·subst f;rfl
 haveI i:adx (n,a,b,c,d,e)=[]:=(Qe h).trans<|Qe f;unfold iK uW;refine af i ?_;haveI j:¬((2:Nat)=0∨((2:Nat):Int)=n):=by lia
 have g:¬((10:Nat)=0∨((10:Nat):Int)=n):=by lia
 simp only [dG,Zu,List.map_nil,Qe j,Qe g];rfl
def alH(a:Option cv)(st:V):List (Str×V):=mf.flatMap λw=>(dG.zip aaJ).map λe=>(fm w e.1,yD a st e.2 w)
theorem agQ{h:a->d->i}:∀{l:List a} {k:List j},l.map f=k.map g->l.map (λe=>h e<|f e)=(l.zip k).map λe=>h e.1 (g e.2):=by
 intro l
 induction l with
 |nil=>intros;rfl
 |cons x l r=>
  intro k e
  cases k with
  |nil=>injection e
  |cons y k=>refine aP (List.cons.inj e) λb c=>?_;show _::_=_::_;exact af (r c)<|Qt (h x ·::_) b
theorem ajv:kvC a=alH a st:=by
 cases a with
 |none=>rfl
 |some d=>
  haveI s:∀w,w∈mf->∀q,(if w="original" then d.og else d.rp)=q->dG.map (λe=>(fm w e,kP (some d) w e))=(dG.zip aaJ).map λe=>(fm w e.1,iK q e.2):=λw _ q b=>by
   subst b;exact agQ (h:=λe v=>(fm w e,v))<|yE _
  show(dG.map λe=>(fm "original" e,kP (some d) "original" e))++((dG.map λe=>(fm "reply" e,kP (some d) "reply" e))++[])=_;exact af (s "original" dd d.og rfl)<|af (s "reply" dd d.rp rfl) rfl
noncomputable def ans(d:cv):List (Str×V):=[("ct direction",.A d.ir),("ct l3proto",.A d.og.1),("ct protocol",.A d.og.2.1),("ct zone",.A d.zn),("ct status",.A d.st),("ct mark",.A d.ma),("ct expiration",.A<|if d.un - d.nw<0 then 0 else d.un - d.nw)]
theorem ajw:kv7 (some d)=ans d:=by
 show [_,_,_,_,_,_,_]=[_,_,_,_,_,_,_];exact af (show(if d.nw<d.un then d.un - d.nw else 0)=(if d.un - d.nw<0 then 0 else d.un - d.nw) from by split<;>split<;>lia) rfl
theorem aed{a:Str->V}:cK ([],some 0) (kvP f++(((w8.map λw=>(w.1,V.C))++([(("ct state":Str),st)]++([]++alH none st)))++kvM a))=(afm f none st a,some 99):=by kernel_rfl
theorem aee{a:Str->V}:cK ([],some 0) (kvP f++(((w8.map λw=>(w.1,V.C))++([(("ct state":Str),st)]++(ans d++alH (some d) st)))++kvM a))=(afm f (some d) st a,some 99):=by kernel_rfl
theorem ajx{st:V}{a:Str->V}:cK (cK (dc.foldl (fM f) ([],some 0))<|kvT b st) (kvM a)=(afm f b st a,some 99):=by
 refine af (aju ..)<|cI (fk ..)<|cI (fk ..) ?_;unfold kvT;refine af (ajv (st:=st)) ?_
 cases b with
 |none=>exact aed
 |some d=>exact af ajw aee
def sU:DP:=cK ([],some 0)<|kvP oo++(re++abW)
theorem afn:cK (cK (dc.foldl (fM oo) ([],some 0)) re) abW=sU:=by
 exact af (aju ..)<|cI (fk ..)<|cI (fk ..) rfl
theorem yF{a:Str->V}:(afm f b st a).map Prod.fst=jJ:=by kernel_rfl
theorem yG:aG.map Prod.fst=mU:=by kernel_rfl
theorem acg:jJ.Nodup:=by decide+kernel
section
theorem ajy:dc.map (λe=>((aB e.Aa aG).bind ja,(aB e.Aa aG).bind ahr))=dc.map λe=>(some<|Str.ofString "payload",some ⟨e.Ab,e.Ad,e.Ae,e.Ac⟩):=by kernel_rfl
theorem ajz:lN.map (λr=>((aB (jH r.1) aG).bind ja,((aB (jH r.1) aG).bind pf).bind lX))=lN.map λr=>(some<|Str.ofString "meta",some r.1):=by kernel_rfl
theorem ctF:c20.map (λr=>((aB r.1 aG).bind ja,((aB r.1 aG).bind pf).bind xJ))=c20.map λr=>(some<|Str.ofString "ct",some (V.D r.2.1,V.D r.2.2.1)):=by kernel_rfl
theorem ant:c20.all (λr=>PyData.strOk r.2.1&&PyData.strOk r.2.2.1)=true:=by decide+kernel
noncomputable def l4N:aD->V|none=>.C|some (k,_,_,_)=>.A k
noncomputable def l4I:aD->Int|none=> -1|some (k,_,_,_)=>k
def mvF(kd:Nat)(b:List UInt8)(q:aD)(M:List (Str×V))(key:Str):V:=
 if key="l4proto" then l4N q else if key="nfproto" then qh kd else if key="length" then .A b.length else if key="protocol" then .A kd else(aB key M).getD .C
structure qx(H:Hp)(sc pk fd rd mt tk:V)(d1 d2 kd:Nat)(b lk:List UInt8)(q:aD)(M:List (Str×V))(td:Option cv)(st:V):Prop where
 Ab:aY H sc "packet"=some pk
 is:kT H pk kd b lk q d1 d2
 Af:aY H pk "meta"=some mt
 Ak:∀k,xF H mt k=some ((aB k M).getD .C)
 Ac:aY H sc "fields"=some fd
 Al:∀k,xF H fd k=some ((aB k aG).getD .C)
 Ag:aY H sc "readers"=some rd
 Am:∀k,xF H rd k=some ((aB k bI).getD .C)
 Ah:aY H sc "state"=some st
 Ai:aY H sc "talk"=some tk
 ts:rc H sc tk td
 Aj:kd<65536
 Ad:b.length<=200
 Ae:lk.length<=200
 Aa:eA kd b=some q
section
variable {H:Hp} {sc pk fd rd mt tk:V} {d1 d2 kd:Nat} {b lk:List UInt8} {q:aD} {M:List (Str×V)} {td:Option cv} {st:V} {pl:Hp->V->V->Option V}
theorem sV(h:H[i]?=some (.D b)):bS (.B i) H=some b:=by show H[i]?.bind iJ=_;exact af h rfl
theorem yH(h:ja f=some t):dH f=false:=by
 refine aP (mJ h) λ_ a=>kg a λ_ _ _ _ c=>?_;clear a;subst c;rfl
theorem agR(W:qx H sc pk fd rd mt tk d1 d2 kd b lk q M td st)(h:aB n aG=some f)(a:ja f=some t)(c:aB t bI=some (.H j))(d:rdv pl H sc f j=some v):vv pl H sc n=some v:=by
 haveI e:voR pl H sc n=some (.ok v H):=by
  refine(aw W.Ac).trans<|(aw<|(W.Al n).trans<|Qt (λx=>some<|x.getD V.C) h).trans ?_;show(if dH f=true then _ else _)=_;refine af (yH a)<|(Qe Zv).trans<|(aw a).trans<|(aw W.Ag).trans<|(aw<|(W.Am t).trans<|Qt (λx=>some<|x.getD V.C) c).trans ?_;exact aw d
 unfold vv;exact af e rfl
theorem sW(W:qx H sc pk fd rd mt tk d1 d2 kd b lk q M td st)(e:r∈lN):vv pl H sc (jH r.1)=some (mvF kd b q M r.1):=by
 haveI h:=mi ajz r e;refine aP (Prod.mk.inj h) λc a=>bo c λf d g=>?_;clear c;rw [d] at a;refine bo a λk i j=>?_;clear a;refine agR W d g (j:=38) rfl<|(Qh rfl).trans<|(aw i).trans<|(aw j).trans<|(aw W.Ab).trans ?_;unfold mvF
 split
 ·refine(aw<|(aw W.is.l4).trans (show lY (l4V q)=some (l4I q) from by cases q<;>rfl)).trans ?_
  cases q with
  |none=>rfl
  |some x=>exact Qt some<|Qe<|Int.not_lt.mpr<|Zh x.1
 split
 ·exact(aw<|(aw W.is.Ac).trans<|bZ kd).trans<|Qh W.Aj
 split
 ·exact(aw<|(aw W.is.Aa).trans<|sV W.is.Ae).trans<|Qh<|Qa W.Ad (by decide:200<=1000)
 split
 ·exact W.is.Ac
 ·exact(aw W.Af).trans<|W.Ak r.1
theorem amE(W:qx H sc pk fd rd mt tk d1 d2 kd b lk q M td st)(j:r∈c20):vv pl H sc r.1=some (yD td st r.2.1 r.2.2.1):=by
 haveI h:=mi ctF r j;refine aP (Prod.mk.inj h) λl c=>bo l λf m n=>?_;clear l;rw [m] at c;refine bo c λk p u=>?_;clear c;haveI o:=Qs.mp<|Qx.mp ant r j;haveI s:∀{x:Str},PyData.strOk x=true->lX (.D x)=some x:=λh=>Qh h;refine agR W m n (j:=39) rfl<|(Qe nb).trans<|(Qh rfl).trans<|(aw p).trans<|(aw u).trans<|(aw<|s o.1).trans<|(aw<|s o.2).trans<|(aw W.Ai).trans ?_;unfold yD
 split
 ·exact W.Ah
 have e:=W.ts
 cases td with
 |none=>exact af (show tk=.C from e) rfl
 |some d=>
  refine af e.1<|(Qe Zv).trans ?_;haveI i:∀{v:V} {a:Str} {x:Int},aY H v a=some (.A x)->oi H v a=some x:=λh=>aw h;haveI g:∀{v:V} {a:Str} {x:sq},aY H v a=some (cX x)->ady H v a=some x:=λh=>aw h;haveI t:=e.2;exact aw<|(aw<|i t.st).trans<|(aw<|i t.ir).trans<|(aw<|i t.ma).trans<|(aw<|i t.zn).trans<|(aw<|i t.un).trans<|(aw<|i t.nw).trans<|(aw<|g t.og).trans<|aw<|g t.rp
end
end
section
noncomputable def bgn:aD->Option Nat
 |none=>none
 |some (_,a,p,_)=>if p=0 then some (8*a) else none
def iT(b lk:List UInt8)(q:aD)(base:Str):lK:=
 if base="network" then⟨aQ b,8*b.length,some 0⟩ else if base="transport" then⟨aQ b,8*b.length,bgn q⟩ else⟨aQ lk,8*lk.length,some 0⟩
noncomputable def gD(c:Bool)(kd:Nat)(a:Int):List (Str×V):=[("ether",.E true),("vlan",.E c),("arp",.E (decide (kd=2054))),("ip",.E (decide (kd=2048))),("ip6",.E (decide (kd=34525))),("tcp",.E (decide (a=6))),("udp",.E (decide (a=17))),("th",.E true),("icmp",.E (decide (kd=2048)&&decide (a=1))),("icmpv6",.E (decide (kd=34525)&&decide (a=58)))]
def ajA(v:V):Bool:=vC false v (bool:=id)
def ajB(c:Bool)(kd:Nat)(d:Int)(a:Str):Bool:=ajA<|(aB a<|gD c kd d).getD .C
def jO(lk:List UInt8):Bool:=decide (bM 12 14 lk=[129,0])
def vn(a:Bool)(kd:Nat)(b lk:List UInt8)(q:aD)(e:qi):V:=jW (ajB a kd (l4I q) e.Ab) (iT b lk q e.Ad) e.Ae e.Ac
theorem sX{b:List UInt8}:uY b (o*8+a) m=jW true ⟨aQ b,8*b.length,some<|8*o⟩ a m:=by
 unfold uY jW;refine af (show o*8+a+m=8*o+a+m from by lia) ?_
 by_cases h:8*o+a+m<=8*b.length
 ·exact(Qh h).trans (Qh ⟨rfl,h⟩).symm
 ·exact(Qe h).trans (Qe<|λx=>h x.2).symm
theorem ajC{d:lK}:jW false d a m=.C:=by
 unfold jW
 split
 ·exact Qe<|λx=>Zv x.1
 ·rfl
section
variable {H:Hp} {sc pk fd rd mt tk:V} {d1 d2 kd:Nat} {b lk:List UInt8} {q:aD} {M:List (Str×V)} {td:Option cv} {st:V} {nm:Hp->V->Str->Option Bool}
theorem amF(W:qx H sc pk fd rd mt tk d1 d2 kd b lk q M td st){base:Str}(v:base="network"∨base="transport"∨base="link")(e:a<=1000)(g:m<=1000)(z:0<m):fbv H pk base a m=some (jW true (iT b lk q base) a m):=by
 have l:=sV W.is.Ae;haveI n:=sV W.is.Af;rcases v with rfl|rfl|rfl
 ·refine(aw (show bov H pk "network"=some (some (.B d1,0)) from(Qh rfl).trans<|aw W.is.Aa)).trans<|(aw l).trans<|(Qh ⟨W.Ad,g,lb,e⟩).trans ?_;exact Qt some<|sX (o:=0)
 ·have s1:∀r,(oi H pk "off").bind (λo=>if o<0 then some none else(aY H pk "data").bind λd=>some<|some (d,o.toNat))=r->bov H pk "transport"=r:=λr h=>(Qe dd).trans<|(Qh rfl).trans h;have i:oi H pk "off"=lY (yy q):=(aw (f:=lY) W.is.Ag).trans<|Qt lY<|afj W.Aa;have f:=W.Aa
  cases q with
  |none=>exact(aw<|s1 (some none)<|(aw<|i.trans rfl).trans<|Qh dd).trans rfl
  |some x=>
   obtain⟨k,c,p,s⟩:=x
   by_cases t:p=0
   ·subst t;haveI j:=ue f;refine(aw<|s1 (some<|some (.B d1,c))<|(aw<|i.trans (show _=some (c:Int) from rfl)).trans<|(Qe<|by lia).trans<|aw W.is.Aa).trans<|(aw l).trans<|(Qh ⟨W.Ad,g,by haveI:=W.Ad;exact aU<|Qa j this,e⟩).trans ?_;exact Qt some<|sX (o:=c)
   ·have w:yy (some (k,c,p,s))=.A (-1):=Qt V.A<|Qh<|Nat.pos_of_ne_zero ‹_›;have y:iT b lk (some (k,c,p,s)) "transport"=⟨aQ b,8*b.length,none⟩:=by
     show lK.mk _ _ (if p=0 then some (8*c) else none)=_;exact af (Qe t) rfl
    exact af y<|(aw<|s1 (some none)<|(aw<|i.trans<|by refine af w ?_;rfl).trans<|Qh dd).trans rfl
 ·have s1:∀r,(if lk.length=0 then some none else some (some (V.B d2,0)))=r->bov H pk "link"=r:=λr h=>(Qe dd).trans<|(Qe dd).trans<|(Qh rfl).trans<|(aw W.is.Ad).trans<|(aw n).trans<|(Qh W.Ae).trans h
  by_cases u:lk.length=0
  ·refine(aw<|s1 _<|Qh u).trans ?_;show some V.C=some (if true=true/\0+a+m<=8*lk.length then _ else _);exact af (Qe<|by lia) rfl
  ·exact(aw<|s1 _<|Qe u).trans<|(aw n).trans<|(Qh ⟨W.Ae,g,lb,e⟩).trans<|Qt some<|sX (o:=0)
theorem ajD:dc.all (λe=>decide (e.Ad="network"∨e.Ad="transport"∨e.Ad="link")&&(decide (e.Ae<=1000)&&(decide (e.Ac<=1000)&&decide (0<e.Ac))))=true:=by decide+kernel
theorem afo(W:qx H sc pk fd rd mt tk d1 d2 kd b lk q M td st){e:qi}(a:e∈dc)(h:nm H sc e.Ab=some k):vv (rpv nm) H sc e.Aa=some (jW k (iT b lk q e.Ad) e.Ae e.Ac):=by
 refine aP (Prod.mk.inj<|mi ajy e a) λc d=>bo c λf g i=>?_;clear c;rw [g] at d;haveI t:=Qx.mp ajD e a;simp only [ZH,decide_eq_true_eq] at t;refine agR W g i (j:=37) rfl<|(Qe nb).trans<|(Qe nb).trans<|(Qh rfl).trans<|(aw d).trans<|(aw h).trans ?_
 cases k with
 |false=>exact Qt some ajC.symm
 |true=>exact(aw W.Ab).trans<|amF W t.1 t.2.1 t.2.2.1 t.2.2.2
end
end
section
theorem uk:qt (qh kd) 2=some (decide (kd=2048)):=by
 show some (decide ((if kd=2048 then(2:Int) else if kd=34525 then 10 else if kd=2054 then 3 else 0)=(2:Nat)))=_;congr 2
 split<;>rename_i h
 ·simp [h]
 ·split
  ·simp [h]
  ·split<;>simp [h]
theorem rq:qt (qh kd) 10=some (decide (kd=34525)):=by
 show some (decide ((if kd=2048 then(2:Int) else if kd=34525 then 10 else if kd=2054 then 3 else 0)=(10:Nat)))=_;congr 2
 split<;>rename_i h
 ·simp [h]
 ·split<;>rename_i a
  ·simp [a]
  ·split<;>simp [a]
theorem sY:qt (l4N q) n=some (decide (l4I q=n)):=by
 cases q with
 |none=>exact Qt some (QT (show ¬(-1:Int)=n from by omega)).symm
 |some x=>rfl
theorem ach{kd n:Nat}:qt (.A kd) n=some (decide (kd=n)):=by
 show some (decide ((kd:Int)=n))=_;congr 2;exact propext Int.ofNat_inj
theorem agT(h:l.length=2):decide (aQ l=33024)=decide (l=[129,0]):=by
 match l,h with
 |[x,y],_=>
  haveI e:aQ [x,y]=x.toNat*256+y.toNat:=by show(0*256+x.toNat)*256+y.toNat=_;lia
  refine af e ?_;congr 1;apply propext;constructor
  ·intro h;haveI i:=x.toNat_lt;haveI j:=y.toNat_lt;have a:x=129:=UInt8.toNat.inj (show x.toNat=129 from by lia);haveI c:y=0:=UInt8.toNat.inj (show y.toNat=0 from by lia);exact af a<|af c rfl
  ·intro h;exact aP (List.cons.inj h) λd f=>aP (List.cons.inj f) λg _=>af d<|af g rfl
theorem agU{lk:List UInt8}:qt (jW true ⟨aQ lk,8*lk.length,some 0⟩ 96 16) 33024=some (jO lk):=by
 by_cases h:14<=lk.length
 ·haveI e:aQ lk/ 2^(8*lk.length - (0+96+16))%2^16=aQ (bM 12 14 lk):=by
   rw [show 8*lk.length - (0+96+16)=8*(lk.length - 14) from(Nat.mul_sub 8 lk.length 14).symm,←kO lk 14 h,ua lk 12 14 lb h,ZI,show 8*(14 - 12)=16 from rfl,Nat.add_mul_mod_self_right];apply Nat.mod_eq_of_lt;have:=rY<|bM 12 14 lk
   rwa [show(bM 12 14 lk).length=2 from by unfold bM;rw [QK,QL,ZE h]] at this
  have v:jW true ⟨aQ lk,8*lk.length,some 0⟩ 96 16=.A (aQ (bM 12 14 lk):Nat):=(Qh ⟨rfl,by show 0+96+16<=8*lk.length;exact acw<|QJ (Qd 8) h⟩).trans<|Qt (λn:Nat=>V.A n) e;exact af v<|af ach<|Qt some<|agT (by unfold bM;rw [QK,QL,ZE h])
 ·have v:jW true ⟨aQ lk,8*lk.length,some 0⟩ 96 16=.C:=Qe<|λx=>h (by haveI:=x.2;show 14<=lk.length;change 0+96+16<=8*lk.length at this;exact Nat.le_of_mul_le_mul_left this<|ZD 7);refine af v<|Qt some (QT ?_).symm;intro x;haveI:=Qt List.length x;unfold bM at this;rw [QK,QL] at this;have e:([129,0]:List UInt8).length=2:=rfl;lia
theorem nm1(h:vf H sc n=some v)(hs:qt v w=some b):nmL vf H sc [(n,w)]=some b:=by
 refine(aw h).trans<|(aw hs).trans ?_
 cases b<;>rfl
theorem nm2(h:vf H sc n=some v)(hs:qt v w=some b)(h':vf H sc c=some d)(a:qt d e=some f):nmL vf H sc [(n,w),(c,e)]=some (b&&f):=by
 refine(aw h).trans<|(aw hs).trans ?_
 cases b with
 |false=>rfl
 |true=>exact nm1 h' a
noncomputable def jk:List Str:=["ether","vlan","arp","ip","ip6","tcp","udp","th","icmp","icmpv6"]
theorem afp:dc.all (λe=>decide (e.Ab∈jk))=true:=by decide+kernel
theorem ajE{P:Str->Prop}(a:P "ether")(c:P "vlan")(d:P "arp")(e:P "ip")(f:P "ip6")(g:P "tcp")(i:P "udp")(j:P "th")(k:P "icmp")(l:P "icmpv6"):∀p∈jk,P p:=by
 intro p h;simp only [jk,Qz,Zx,or_false] at h;rcases h with rfl|rfl|rfl|rfl|rfl|rfl|rfl|rfl|rfl|rfl<;>assumption
section
variable {H:Hp} {sc pk fd rd mt tk:V} {d1 d2 kd:Nat} {b lk:List UInt8} {q:aD} {M:List (Str×V)} {td:Option cv} {st:V} {vf0:Hp->V->Str->Option V}
theorem gW(h:lZ p gI=some l)(a:nmL vf H sc l=r):nmv vf H sc p=r:=(aw h).trans a
theorem yI:(⟨"ether","link","type",96,16⟩:qi)∈dc:=Zp (i:=2) (by kernel_rfl)
theorem amH(W:qx H sc pk fd rd mt tk d1 d2 kd b lk q M td st):∀p∈jk,nmv (vv<|rpv<|nmv vf0) H sc p=some (ajB (jO lk) kd (l4I q) p):=by
 haveI a:vv (rpv<|nmv vf0) H sc "meta nfproto"=some (qh kd):=sW W (r:=("nfproto",8,"big","nf_proto"))<|Zp (i:=2) rfl;haveI c:vv (rpv<|nmv vf0) H sc "meta l4proto"=some (l4N q):=sW W (r:=("l4proto",8,"big","inet_proto"))<|Zp (i:=3) rfl;haveI d:vv (rpv<|nmv vf0) H sc "meta protocol"=some (.A kd):=sW W (r:=("protocol",16,"big","ether_type"))<|Zp (i:=1) rfl;haveI e:vv (rpv<|nmv vf0) H sc "ether type"=some (jW true ⟨aQ lk,8*lk.length,some 0⟩ 96 16):=afo W yI (k:=true)<|gW (l:=[]) (by kernel_rfl) rfl;apply ajE
 ·exact gW (l:=[]) (by kernel_rfl) rfl
 ·exact gW (l:=[("ether type",33024)]) (by kernel_rfl)<|nm1 e agU
 ·exact gW (l:=[("meta protocol",2054)]) (by kernel_rfl)<|nm1 d ach
 ·exact gW (l:=[("meta nfproto",2)]) (by kernel_rfl)<|nm1 a uk
 ·exact gW (l:=[("meta nfproto",10)]) (by kernel_rfl)<|nm1 a rq
 ·exact gW (l:=[("meta l4proto",6)]) (by kernel_rfl)<|nm1 c sY
 ·exact gW (l:=[("meta l4proto",17)]) (by kernel_rfl)<|nm1 c sY
 ·exact gW (l:=[]) (by kernel_rfl) rfl
 ·exact gW (l:=[("meta nfproto",2),("meta l4proto",1)]) (by kernel_rfl)<|nm2 a uk c sY
 ·exact gW (l:=[("meta nfproto",10),("meta l4proto",58)]) (by kernel_rfl)<|nm2 a rq c sY
abbrev plX(vf0:Hp->V->Str->Option V):Hp->V->V->Option V:=rpv<|nmv<|vv<|rpv<|nmv vf0
def vp(kd:Nat)(b lk:List UInt8)(q:aD)(M:List (Str×V))(td:Option cv)(st:V):List (Str×V):=afm (vn (jO lk) kd b lk q) td st<|mvF kd b q M
theorem ajF(W:qx H sc pk fd rd mt tk d1 d2 kd b lk q M td st):∀p∈vp kd b lk q M td st,vv (plX vf0) H sc p.1=some p.2:=by
 intro p d;rcases Zd.mp d with h|h
 ·refine aT (Zz.mp h) λe c f=>?_;subst f;exact afo W c<|amH W _<|Ql<|Qx.mp afp e c
 rcases Zd.mp h with h|h
 ·refine aT (Zz.mp h) λr a g=>?_;subst g;exact amE W a
 ·refine aT (Zz.mp h) λr a i=>?_;subst i;exact sW W a
end
end
def yJ(f:V):Option Int:=vC none f (tup:=λl=>l[2]?.bind lY)
theorem anu:dc.map (λe=>aB e.Aa sU.1)=dc.map λe=>some (oo e):=by kernel_rfl
theorem anv:lN.map (λr=>(aB (jH r.1) sU.1,(aB (jH r.1) aG).bind yJ))=lN.map λr=>(some<|sR 0 r.2.1,some (r.2.1:Int)):=by kernel_rfl
theorem ctS:c20.map (λr=>(aB r.1 sU.1,(aB r.1 aG).bind yJ))=c20.map λr=>(some<|sR 0 r.2.2.2,some (r.2.2.2:Int)):=by kernel_rfl
def anw(c:CF)(H:Hp)(a:Nat)(n:Str):Prop:=∃s:Int,aB n sU.1=some (.A s)/\c 15 [.B a,io n] H=.ok (.A s) H
theorem amI{a m:Nat}(h:0<m):(((a:Int)+m - 1)/ 8 - (a:Int)/ 8+1)=((a%8+m+7)/ 8:Nat):=by
 refine bC (Nat.exists_eq_succ_of_ne_zero<|ZA h) λm b=>?_;subst b;have q:(a+m)/ 8=a/ 8+(a%8+m)/ 8:=by
  conv=>lhs;rw [←Nat.div_add_mod a 8,Zt,Nat.mul_add_div lb]
 show(((a+(m+1):Nat):Int) - 1)/ 8 - _+1=_;rw [←Zt,Int.natCast_succ,Int.add_sub_cancel,show a%8+(m+1)+7=a%8+m+8 from rfl,Nat.add_div_right _ lb];show(((a+m)/ 8:Nat):Int) - ((a/ 8:Nat):Int)+1=_;rw [q,Int.natCast_add,Int.add_comm ((a/ 8:Nat):Int),Int.add_sub_cancel];rfl
theorem yK(S_:sS c)(m:H[h]?=some (.B aG ep))(i:(aB n aG).bind ja=some t)(o:t≠"payload")(p:aB n sU.1=some (sR 0 g))(j:(aB n aG).bind yJ=some (g:Int)):anw c H h n:=by
 refine bo i λf k q=>?_;clear i;rw [k] at j;refine aP (mJ q) λr l=>kg l λa b d e s=>?_;clear l;subst s;obtain rfl:=gS (show lY b=some (g:Int) from j);exact bv _ p<|S_ H h aG ep n t a g d e 0 m k r (by exact af (Qe o) rfl)
theorem amJ{c:CF}{x:Str->V}(S_:sS c)(l:H[o]?=some (.B aG ep)):∀p∈afm f K st x,anw c H o p.1:=by
 intro p y;rcases Zd.mp y with h|h
 ·refine aT (Zz.mp h) λe m z=>?_;subst z;refine aP (Prod.mk.inj<|mi ajy e m) λg i=>bo g λL q A=>?_;clear g;rw [q] at i;refine aP (mJ A) λB u=>kg u λa b d k C=>?_;clear u;subst C;refine gx (xT (show ahr (.F [_,_,_,_,_])=some _ from i)) λ_ _ v=>ze v λM N d' D=>?_;clear v;haveI E:=List.cons.inj (List.cons.inj<|V.F.inj D).2;haveI w:=List.cons.inj E.2;have F:=List.cons.inj w.2;haveI G:=List.cons.inj F.2;obtain rfl:=w.1;obtain rfl:=G.1;haveI t:=Qx.mp ajD e m;simp only [ZH,decide_eq_true_eq] at t;exact bv _ (mi anu e m)<|(S_ H o aG ep e.Aa "payload" a e.Ac d _ (e.Ae%8) l q B<|by refine af (Qh rfl) ?_;exact alq _ _ _ rfl rfl).trans<|Qt (λs=>bJ.ok (V.A s) H) (amI t.2.2.2).symm
 rcases Zd.mp h with h|h
 ·refine aT (Zz.mp h) λr j I=>?_;subst I;exact aP (Prod.mk.inj<|mi ctF r j) λg _=>aP (Prod.mk.inj<|mi ctS r j) λi n=>yK S_ l g dd i n
 ·refine aT (Zz.mp h) λr j J=>?_;subst J;exact aP (Prod.mk.inj<|mi ajz r j) λg _=>aP (Prod.mk.inj<|mi anv r j) λi n=>yK S_ l g dd i n
def NI(v:V):Prop:=v=.C∨∃i,v=.A i
theorem NI.ne(h:NI v):eO .NotEq v v H=.ok (.E false) H:=by
 rcases h with rfl|⟨i,rfl⟩
 ·exact nT uc rfl rfl rfl
 ·exact nT adY rfl rfl rfl
theorem ajG:NI (vn a kd b c q e):=by
 unfold vn jW
 split
 ·split
  ·exact .inr ⟨_,rfl⟩
  ·exact .inl rfl
 ·exact .inl rfl
theorem aci{l:List (Str×V)}:(∀p∈l,∃i,p.2=V.A i)->NI ((aB k l).getD .C):=by
 induction l with
 |nil=>intro _;exact .inl rfl
 |cons u r a=>
  intro h;show NI ((if u.1=k then some u.2 else aB k r).getD .C)
  by_cases q:u.1=k
  ·exact af (Qh q)<|.inr<|h _ List.mem_cons_self
  ·exact af (Qe q)<|a λp b=>h p<|List.mem_cons_of_mem _ b
theorem agV:NI (iK q k):=by
 refine aci λp a=>?_;unfold uW adx at a;rcases Qz.mp a with rfl|a
 ·exact⟨_,rfl⟩
 rcases Qz.mp a with rfl|a
 ·exact⟨_,rfl⟩
 rcases Qz.mp a with rfl|a
 ·exact⟨_,rfl⟩
 rcases Qz.mp a with rfl|a
 ·exact⟨_,rfl⟩
 split at a
 ·rcases Qz.mp a with rfl|a
  ·exact⟨_,rfl⟩
  ·obtain rfl:=QM.mp a;exact⟨_,rfl⟩
 split at a
 ·rcases Qz.mp a with rfl|a
  ·exact⟨_,rfl⟩
  ·obtain rfl:=QM.mp a;exact⟨_,rfl⟩
 ·cases a
theorem amK(hs:NI st):NI (yD b st k d):=by
 unfold yD
 split
 ·exact hs
 cases b with
 |none=>exact .inl rfl
 |some t=>
  haveI n:∀p∈ct5 t,∃i,p.2=V.A i:=by
   intro p a;simp only [ct5,Qz,Zx,or_false] at a;rcases a with rfl|rfl|rfl|rfl|rfl<;>exact⟨_,rfl⟩
  haveI g:∀l:List (Str×V),(∀p∈l,∃i,p.2=V.A i)->∀w,NI w->NI ((aB k l).getD w):=by
   intro l
   induction l with
   |nil=>exact λ_ w h=>h
   |cons p r c=>
    obtain⟨y,u⟩:=p;intro h w e;show NI ((if y=k then some u else aB k r).getD w)
    split
    ·exact .inr<|h _ List.mem_cons_self
    ·exact c (λp a=>h p<|List.mem_cons_of_mem _ a) w e
  exact g _ n _ agV
theorem amL(h:∀p∈M,∃i,p.2=V.A i):NI (mvF kd b q M k):=by
 unfold mvF
 split
 ·cases q with
  |none=>exact .inl rfl
  |some x=>exact .inr ⟨_,rfl⟩
 split
 ·exact .inr ⟨_,rfl⟩
 split
 ·exact .inr ⟨_,rfl⟩
 split
 ·exact .inr ⟨_,rfl⟩
 ·exact aci h
theorem ajH(hs:NI st)(d:∀p∈M,∃i,p.2=V.A i):∀p∈vp kd b k q M l st,NI p.2:=by
 intro p f;rcases Zd.mp f with h|h
 ·refine aT (Zz.mp h) λe m g=>?_;subst g;exact ajG
 rcases Zd.mp h with h|h
 ·refine aT (Zz.mp h) λr j a=>?_;subst a;exact amK hs
 ·refine aT (Zz.mp h) λr j c=>?_;subst c;exact amL d
structure CFs(vf0:Hp->V->Str->Option V)(c:CF):Prop where
 n:dI c
 pk:qT c
 po:c 26=cU cG
 fr:nJ c
 et:c 23=cU gf
 sh:nS c
 fp:c 27=cU gi
 tl:kU c
 sc:nK c
 al:afl c
 mr:nN c
 rf:yr c c
 tk:kN c
 wh:lz c
 py:yn c
 Aa:kQ c
 Ab:kR c
 rd:c 40=cU eB
 vo:c 33=cU (ol<|plX vf0)
 sz:sS c
theorem bc{A B:Hp}{i:Nat}(e:A[i]?=some ob):(A++B)[i]?=some ob:=by
 refine bC (Qg.mp e) λh _=>?_;refine af (Qj h) ?_;exact e
theorem acj:∀ns:List Int,oz (ns.map V.A)=some ns
 |[]=>rfl
 |n::ns=>by show(oz<|ns.map V.A).map (n::·)=_;exact af (acj ns) rfl
theorem aeg{ns:List Int}(h:H[i]?=some (.A<|ns.map V.A)):jb "sum" [.B i] H=.ok (.A ns.sum) H:=by
 show(bX i H).Aa _=_;unfold bX;refine af h ?_;show cs (oz<|ns.map V.A) _ H=_;exact af (acj ..) rfl
theorem agW{L:List Nat}(h:j<L.length):∃n∈L,(L.map λn:Nat=>V.A n)[j]?=some (.A n):=
 (bv (L[j]) (List.getElem_mem h)<|by(refine af (QD) ?_;refine af (Qw h) ?_);rfl)
theorem afq(N:dI c)(P:fq H k)(g:k<=4000)(a:l 1=some (.B 1)){m:Nat}(b:0<m):
 ∃j o,j<m/\ak c (.E .Mod (.G (.F 41) [.A 1])<|.B m) l H=.ok (.A (j:Nat)) (H.set 1 o)/\fq (H.set 1 o) (k+1):=by
 exact cM (N H k P<|Qa ‹_› lb) λx o e d=>aT (dj x b) λj f q=>qe j o f (aq (av (ae (aa a) aj) e) rfl<|(bL (q:=m)<|Zf.mpr ‹_›).trans<|by exact af q rfl) d
noncomputable def aaL:List Nat:=[2048,34525,2048,34525,2054,4660]
noncomputable def pY:List Nat:=[6,17,1,58,47,6,17,59]
theorem aeh:∀n∈aaL,n<65536/\¬qu n:=dd
theorem ul:∀n∈pY,n<256/\vV n 0=0:=dd
structure SA(l:Lc)(H:Hp)(kd f ro rl:Nat)(b lk:List UInt8)(q:aD)(k:Nat):Prop where
 l1:l 1=some (.B 1)
 l2:l 2=some (.A kd)
 l4:l 4=some (.A f)
 l5:l 5=some (.B ro)
 l6:l 6=some (bU q)
 l7:l 7=some (.B rl)
 Ad:H[ro]?=some (.A<|ay b)
 Ag:H[rl]?=some (.A<|ay lk)
 no:ro≠1
 nl:rl≠1
 Ae:fq H k
 Ac:kd<65536/\¬qu kd
 Ah:f<4
 Ab:b.length<=170
 Af:lk.length<=30
 Aa:eA kd b=some q
theorem stA{vf0:Hp->V->Str->Option V}{c:CF}(C:CFs vf0 c){ns:List Int}(R:ns.length<=63):∃l H kd f U W b q,(∀{v:bJ (Fl×Lc)},au c (cF.Aa.drop 7) l H=v->au c (cF.Aa.drop 1) (Lc.Aa (λ_=>none) 0<|.B 0) [.A<|ns.map .A]=v)/\SA l H kd f U W b [] q 60:=by
 generalize i:Lc.Aa (λ_=>none) 0 (.B 0)=s;haveI B:s 0=some (.B 0):=i ▸rfl;clear i;haveI s1:aN c (.A (.A 1)<|.M [.A 0,.B 0,.E .Mod (.K "sum" [.A 0])<|.B 65521]) s [.A<|ns.map .A]=.ok (.Aa,s.Aa 1<|.B 1) [.A<|ns.map .A,.A [.B 0,.A 0,.A<|ns.sum%65521]]:=
  az (cV (H1:=[.A<|ns.map .A]) (vs:=[.B 0,.A 0,.A<|ns.sum%65521])<|ae (aa B)<|ae rfl<|ae (aq (bh (vs:=[.B 0]) (ae (aa B) aj)<|aeg rfl) rfl<|bL (q:=65521) dd) aj)
 generalize j:[O.A<|ns.map .A,.A [.B 0,.A 0,.A<|ns.sum%65521]]=H1 at s1;haveI Y:fq H1 0:=j ▸(vh ns 0 _ rfl rfl R<|Qd _);generalize k:s.Aa 1 (.B 1)=t at s1;haveI D:t 1=some (.B 1):=k ▸rfl;clear k j;refine dN (afq C.n Y lb D (m:=6) lb) λj2 E Z e2 F=>?_;refine aT (agW (L:=aaL) Z) λkd k1 k2=>?_;haveI w:aN c (.A (.A 2)<|.H (.D [.B 2048,.B 34525,.B 2048,.B 34525,.B 2054,.B 4660])<|.E .Mod (.G (.F 41) [.A 1])<|.B 6) t H1=.ok (.Aa,t.Aa 2<|.A kd) (H1.set 1 E):=
  az (aJ (x:=.F<|aaL.map λn:Nat=>.A n) rfl e2<|gV k2 lb)
 generalize H1.set 1 E=x at w F;generalize e:t.Aa 2 (.A kd)=a at w;have u:a 1=some (.B 1):=e ▸D;have I:a 2=some (.A kd):=e ▸rfl;clear e;refine dN (afq C.n F lb u (m:=8) lb) λj3 J h3 e3 K=>?_;refine aT (agW (L:=pY) h3) λp L p2=>?_;haveI M:aN c (.A (.A 3)<|.H (.D [.B 6,.B 17,.B 1,.B 58,.B 47,.B 6,.B 17,.B 59])<|.E .Mod (.G (.F 41) [.A 1])<|.B 8) a x=.ok (.Aa,a.Aa 3<|.A p) (x.set 1 J):=
  az (aJ (x:=.F<|pY.map λn:Nat=>.A n) rfl e3<|gV p2 lb)
 generalize x.set 1 J=y at M K;refine dN (afq C.n K lb (l:=a.Aa 3<|.A p) u (m:=4) lb) λf N h4 e4 z=>?_;haveI P:aN c (.A (.A 4)<|.E .Mod (.G (.F 41) [.A 1])<|.B 4) (a.Aa 3<|.A p) y=.ok (.Aa,(a.Aa 3<|.A p).Aa 4<|.A f) (y.set 1 N):=az e4;generalize y.set 1 N=g at P z;refine kg (C.pk g _ kd p z lb (ul p L).1 (ul p L).2) λo G r d m=>bC m λq m=>gF m λe5 g5 hr m=>gx m λhd hf Q=>?_;haveI s5:aN c (.A (.D [.A 5,.A 6])<|.G (.F 49) [.A 1,.A 2,.A 3]) ((a.Aa 3<|.A p).Aa 4<|.A f) g=.ok (.Aa,(((a.Aa 3<|.A p).Aa 4<|.A f).Aa 5<|.B r).Aa 6<|bU q) (g.set 1 o++G):=
  cm (av (vs:=[.B 1,.A kd,.A p]) (ae (aa u)<|ae (aa I)<|ae (aa rfl) aj) e5) (fc rfl<|aS rfl<|aS rfl cZ)
 haveI A:=z.Ac;refine aob (((((a.Aa 3<|.A p).Aa 4<|.A f).Aa 5<|.B r).Aa 6<|bU q).Aa 7<|.B (g.set 1 o++G).length) ((g.set 1 o++G)++[.A []]) kd f r (g.set 1 o++G).length d q (λ{v} h=>?_) ?_
 ·exact ah s1<|ah w<|ah M<|ah P<|ah s5<|ah (az<|cV aj) h
 ·exact⟨u,I,rfl,rfl,rfl,rfl,bc g5,atL,ZA<|Qr A hr,by haveI:=Q.Ac;refine af Qi ?_;exact aeC<|Qf (Nat.succ_le_of_lt this)<|QO<|List.length G,(fq.Aa<|fq.Aa Q).Ab lb,aeh kd k1,h4,hd,lb,hf⟩
theorem fJ(h:L[k]?=some (.C cn fs))(b:aB a fs=some u):aY (H++L) (.B<|H.length+k) a=some u:=(aw<|bn.trans h).trans b
theorem ajI:kT (H++gH H.length kd b a q) (.B H.length) kd b a q (H.length+1) (H.length+2) where
 Aa:=fJ (k:=0) rfl rfl
 Ad:=fJ (k:=0) rfl rfl
 Ac:=fJ (k:=0) rfl rfl
 l4:=fJ (k:=0) rfl rfl
 Ag:=fJ (k:=0) rfl rfl
 Ab:=fJ (k:=0) rfl rfl
 Ae:=bn
 Af:=bn
structure SB(l:Lc)(H:Hp)(pk:V)(kd:Nat)(b lk:List UInt8)(q:aD)(d1 d2 mr:Nat):Prop where
 l8:l 8=some pk
 is:kT H pk kd b lk q d1 d2
 mt:aY H pk "meta"=some (.B mr)
 mr:H[mr]?=some eT
def StB(c:CF)(l:Lc)(H:Hp)(kd f e:Nat)(b:List UInt8)(q:aD)(k:Nat):Prop:=∃l' H' a g h i j m,(∀{d:bJ (Fl×Lc)},au c (cF.Aa.drop 8) l' H'=d->au c (cF.Aa.drop 7) l H=d)/\SA l' H' kd f e m b a q (k+20)/\SB l' H' g kd b a q h i j
theorem aoy(C:CFs vf0 c)(A:SA l H kd f a i b [] q k)(j:f=0):StB c l H kd f a b q k:=by
 haveI d:ak c (.K "bytes" [.A 5]) l H=.ok (.G b) H:=bh (vs:=[.B a]) (ae (aa A.l5) aj)<|kS A.Ad (by haveI:=A.Ab;exact Qa ‹_› lb);have g:b.length<=200:=by haveI:=A.Ab;exact Qa ‹_› lb
 have e:ak c (.O (.I .Eq (.A 2)<|.B 2048) (.G (.F 26) [.K "bytes" [.A 5]])<|.G (.F 26) [.K "bytes" [.A 5],.A 2]) l H=.ok (.B H.length) (H++gH H.length kd b [] q):=by
  by_cases z:kd=2048
  ·refine cf (am (aa A.l2) rfl<|eq_t (n:=2048) z)<|av (vs:=[.G b]) (ae d aj) ?_;subst z;exact jR C.po rfl A.Aa g lb
  ·refine ci (am (aa A.l2) rfl<|eq_f (n:=2048) z)<|av (vs:=[.G b,.A kd]) (ae d<|ae (aa A.l2) aj) ?_;exact jR C.po (show(if(0:Int)<=(kd:Int) then some (b,(kd:Int).toNat,([]:List UInt8)) else none)=some (b,kd,[]) from Qh<|Zh _) A.Aa g lb
 refine amU (l.Aa 8<|.B H.length) (H++gH H.length kd b [] q) ([]) (.B H.length) (H.length+1) (H.length+2) (H.length+3) i (λ{m} h=>?_) ?_ ⟨rfl,ajI,fJ (k:=0) rfl rfl,bn⟩
 ·exact ah (aK (am (aa A.l4) rfl<|eq_t (n:=0) j)<|ah (az e) aV) h
 ·exact⟨A.l1,A.l2,A.l4,A.l5,A.l6,A.l7,bc A.Ad,bc A.Ag,A.no,A.nl,A.Ae.Aa.Ab<|Qq _ _,A.Ac,A.Ah,A.Ab,A.Af,A.Aa⟩
theorem um(h:j<=x.length):bM i j (x++y)=bM i j x:=by
 unfold bM;exact af (List.take_append_of_le_length h) rfl
theorem agX(h:x.length=n):bM 0 n (x++y)=x:=by
 subst h;unfold bM;exact af List.take_left rfl
theorem aei(h:x.length=n)(a:(x++y).length=m):bM n m (x++y)=y:=by
 subst h;subst a;unfold bM;exact af List.take_length<|af List.drop_left rfl
noncomputable def pyT(t:qg):PyData:=.tuple [.int t.1,.int t.2.1,.int t.2.2.1,.int t.2.2.2]
theorem agY(a:List qg):cC (toPy (n+2) H) (a.map bp)=some (a.map pyT):=by
 induction a with
 |nil=>rfl
 |cons t a r=>show(some<|pyT t).bind (λy=>(cC (toPy (n+2) H)<|a.map bp).map (y::·))=_;exact af r rfl
theorem yL:∀a:List qg,PyData.canLayAll0 (a.map pyT)=true
 |[]=>rfl
 |t::a=>by
  show(true&&PyData.canLayAll0 (a.map pyT))=true;exact af (yL a) rfl
theorem yM(a:List qg):PyData.depthAll (a.map pyT)<=1:=by
 induction a with
 |nil=>simp [PyData.depthAll]
 |cons t a r=>
  haveI e:PyData.depth (pyT t)=1:=rfl;simp only [Zu,PyData.depthAll,e];lia
section
theorem yN{d:List qg}:SeqAt.shaped (.tuple [.int a,.int b,.list<|d.map pyT,.int k])=true:=by
 haveI:=yM d;simp [SeqAt.shaped,PyData.canLay0,PyData.canLayAll0,PyData.depth,PyData.depthAll,yL d];exact Qa ‹_› lb
theorem ack{d:List qg}(h:H[i]?=some (.A<|d.map bp)):toPy 8 H (.F [.A a,.A b,.B i,.A k])=some (.tuple [.int a,.int b,.list<|d.map pyT,.int k]):=by
 haveI e:toPy 7 H (.B i)=some (.list<|d.map pyT):=by
  show(Option.elim H[i]? none λf=>oC none f (list:=λl=>(cC (toPy 6 H) l).map PyData.list))=_;refine af h ?_;show(cC (toPy 6 H)<|d.map bp).map PyData.list=_;exact af (agY (n:=4) d) rfl
 show((some<|PyData.int a).bind λy=>((some<|PyData.int b).bind λy=>((toPy 7 H<|.B i).bind λy=>((some<|PyData.int k).bind λy=>(some []).map (y::·)).map (y::·)).map (y::·)).map (y::·)).map PyData.tuple=_;exact af e rfl
theorem aek{d:List qg}(h:H[i]?=some (.A<|d.map bp))(e:H[j]?=some (.A<|d.map bp)):eO .NotEq (.F [.A a,.A b,.B i,.A k]) (.F [.A a,.A b,.B j,.A k]) H=.ok (.E false) H:=
 nT pC (ack h) (ack e) yN
section
variable {c:CF} {l:Lc} {H:Hp} {r ro:Nat} {lk b:List UInt8}
theorem yO(a:l 7=some (.B r))(d:l 5=some (.B ro))(e:H[r]?=some (.A<|ay lk))(f:H[ro]?=some (.A<|ay b))(g:lk.length+b.length<=200):
 ak c (.K "bytes" [.E .Add (.A 7)<|.A 5]) l H=.ok (.G<|lk++b) (H++[.A<|ay<|lk++b]):=by
 refine bh (vs:=[.B H.length]) (H1:=H++[.A<|ay<|lk++b]) (ae (aq (aa a) (aa d)<|(jD e f<|by(refine af aR ?_;refine af aR ?_);exact Qa ‹_› lb).trans<|by exact af kK rfl) aj) ?_;exact kS atL (by exact af Qi<|Qa ‹_› lb)
end
theorem aoz(C:CFs vf0 c)(A:SA l H kd f ro rl b [] q k)(hk:k<=1000)(hf:f=m+1):StB c l H kd f ro b q k:=by
 have hb:=A.Ab;have s:m<=3:=by haveI:=A.Ah;lia
 refine kg (C.fr H k kd m A.Ae (Qa ‹_› lb) A.Ac.1 s) λN P r t G=>ip G λbase E G=>gF G λe1 B y G=>gF G λhr ht lb G=>gx G λlq hq P1=>?_;have hn:=A.Ae.Ac;have nr:r≠1:=ZA<|Qr hn hr;haveI nt:t≠1:=ZA<|Qr hn ht;have a:(base++iX kd E).length=14+4*m:=by(refine af (Qi ..)<|af (lb ..)<|af (kL ..)<|af (lq ..) ?_);exact(Zt _ _ _).symm
 haveI s1:aN c (.A (.D [.A 7,.A 9])<|.G (.F 50) [.A 1,.A 2,.E .Sub (.A 4)<|.B 1]) l H=.ok (.Aa,(l.Aa 7<|.B r).Aa 9<|.F [.A<|aQ<|bM 0 6 base,.A<|aQ<|bM 6 12 base,.B t,.A kd]) (H.set 1 N++P):=
  cm (av (vs:=[.B 1,.A kd,.A m]) (ae (aa A.l1)<|ae (aa A.l2)<|ae (aq (aa A.l4) rfl (show bJ.ok (V.A<|(f:Int) - 1) H=.ok (.A m) H from by refine af hf ?_;congr 2;lia)) aj) e1) (fc rfl<|aS rfl<|aS rfl cZ)
 have I:(H.set 1 N++P)[ro]?=some (.A<|ay b):=kM A.no A.Ad;have hE:∀d,d<+:(base++iX kd E)++b->jM d=some (if d.length<14+4*m then none else some (E.map fB,kd,14+4*m)):=λd hd=>by
  haveI:=adK (d:=d) (rest:=b) A.Ac.1 A.Ac.2 lb (by rwa [Qn] at hd) hq<|aU<|Qa (Qk lq) s
  rwa [lq] at this
 have c1:bM 0 6 ((base++iX kd E)++b)=bM 0 6 base:=by exact af (Qn ..)<|um<|acw<|Qk<|QR lb
 have c2:bM 6 12 ((base++iX kd E)++b)=bM 6 12 base:=by exact af (Qn ..)<|um<|Qk<|QR ‹_›
 haveI y:(H.set 1 N++P)[t]?=some (.A<|(E.map fB).map bp):=by(refine af y<|af List.map_map ?_);rfl
 haveI n1:1<(H.set 1 N++P).length:=by rw [Qi,Qo];exact Qr ‹_›<|Qq _ _
 haveI P1:fq (H.set 1 N++P) (k+5):=P1.Aa;generalize H.set 1 N++P=H1 at s1 B y I P1 n1;generalize base++iX kd E=lk at B a hE c1 c2;generalize E.map fB=v at y hE;clear hq lq lb e1;rw [←c1,←c2] at s1;generalize n:(l.Aa 7<|.B r).Aa 9 (.F [.A<|aQ<|bM 0 6<|lk++b,.A<|aQ<|bM 6 12<|lk++b,.B t,.A kd])=z at s1;haveI y1:z 1=some (.B 1):=n ▸A.l1;haveI y2:z 2=some (.A kd):=n ▸A.l2;haveI y4:z 4=some (.A f):=n ▸A.l4;haveI y5:z 5=some (.B ro):=n ▸A.l5;haveI y6:z 6=some (bU q):=n ▸A.l6;haveI y7:z 7=some (.B r):=n ▸rfl;haveI y9:z 9=some (.F [.A<|aQ<|bM 0 6<|lk++b,.A<|aQ<|bM 6 12<|lk++b,.B t,.A kd]):=n ▸rfl;clear n c1 c2;have dl:(lk++b).length=14+4*m+b.length:=by(exact af Qi<|af a rfl)
 have dE:jM (lk++b)=some (some (v,kd,14+4*m)):=(hE _<|List.prefix_refl _).trans (by exact af (Qe<|QH.mpr<|ahW dl) rfl);haveI w2:=yO (c:=c) y7 y5 B I (by exact aU<|Qf (Qa (Qk a)<|QB (Zm 4 s) 14) hb);haveI R:aN c (.A (.D [.A 10,.A 11])<|.G (.F 23) [.K "bytes" [.E .Add (.A 7)<|.A 5]]) z H1=.ok (.Aa,(z.Aa 10<|.B<|(H1++[O.A<|ay<|lk++b]).length+1).Aa 11<|.A (14+4*m:Nat)) ((H1++[O.A<|ay<|lk++b])++[.A<|v.map bp,hV (H1++[O.A<|ay<|lk++b]).length (aQ<|bM 0 6<|lk++b) (aQ<|bM 6 12<|lk++b) kd]):=
  cm (av (vs:=[.G<|lk++b]) (ae w2 aj)<|xy C.et dE<|by exact aU<|Qa (Qk dl)<|Qf (QB (Zm 4 s) 14) hb) (fc rfl<|aS rfl<|aS rfl cZ)
 haveI P2:fq (H1++[O.A<|ay<|lk++b]) (k+5):=P1.Aa;haveI U:(H1++[O.A<|ay<|lk++b])[r]?=some (.A<|ay lk):=bc B;haveI W:(H1++[O.A<|ay<|lk++b])[t]?=some (.A<|v.map bp):=bc y;haveI Y:(H1++[O.A<|ay<|lk++b])[ro]?=some (.A<|ay b):=bc I;generalize H1++[O.A<|ay<|lk++b]=g at R P2 U W Y;have Q:∀{x:Str} {u:V},aB x [("target",.A<|aQ<|bM 0 6<|lk++b),("source",.A<|aQ<|bM 6 12<|lk++b),("tags",.B g.length),("kind",.A kd)]=some u->aY (g++[O.A<|v.map bp,hV g.length (aQ<|bM 0 6<|lk++b) (aQ<|bM 6 12<|lk++b) kd]) (.B<|g.length+1) x=some u:=λh=>fJ (k:=1) rfl h;haveI g3:(g++[O.A<|v.map bp,hV g.length (aQ<|bM 0 6<|lk++b) (aQ<|bM 6 12<|lk++b) kd])[g.length]?=some (.A<|v.map bp):=bn (k:=0);haveI P3:fq (g++[O.A<|v.map bp,hV g.length (aQ<|bM 0 6<|lk++b) (aQ<|bM 6 12<|lk++b) kd]) (k+5):=P2.Aa;haveI J:(g++[O.A<|v.map bp,hV g.length (aQ<|bM 0 6<|lk++b) (aQ<|bM 6 12<|lk++b) kd])[r]?=some (.A<|ay lk):=bc U;haveI Z:(g++[O.A<|v.map bp,hV g.length (aQ<|bM 0 6<|lk++b) (aQ<|bM 6 12<|lk++b) kd])[t]?=some (.A<|v.map bp):=bc W;haveI a0:(g++[O.A<|v.map bp,hV g.length (aQ<|bM 0 6<|lk++b) (aQ<|bM 6 12<|lk++b) kd])[ro]?=some (.A<|ay b):=bc Y;generalize g++[O.A<|v.map bp,hV g.length (aQ<|bM 0 6<|lk++b) (aQ<|bM 6 12<|lk++b) kd]=o at R Q g3 P3 J Z a0;generalize g.length=tr at R Q g3;generalize e:(z.Aa 10<|.B<|tr+1).Aa 11 (.A (14+4*m:Nat))=i at R;have x1:i 1=some (.B 1):=e ▸y1;haveI x2:i 2=some (.A kd):=e ▸y2;haveI x4:i 4=some (.A f):=e ▸y4;haveI x5:i 5=some (.B ro):=e ▸y5;haveI x6:i 6=some (bU q):=e ▸y6;have x7:i 7=some (.B r):=e ▸y7;haveI x9:i 9=some (.F [.A<|aQ<|bM 0 6<|lk++b,.A<|aQ<|bM 6 12<|lk++b,.B t,.A kd]):=e ▸y9;haveI D:i 10=some (.B<|tr+1):=e ▸rfl;haveI b7:i 11=some (.A (14+4*m:Nat)):=e ▸rfl;clear e;have F:∀{H':Hp},H'[r]?=some (.A<|ay lk)->ak c (.K "len" [.A 7]) i H'=.ok (.A (14+4*m:Nat)) H':=λh=>bh (ae (aa x7) aj)<|(gk h<|by exact af aR<|aU<|Qa (Qk a)<|Qf (Qd 14)<|QJ (Qd 4) s).trans (by(exact af aR<|af a rfl));haveI s3:aN c (.C (.P false [.I .NotEq (.D [.L (.A 10) "target",.L (.A 10) "source",.L (.A 10) "tags",.L (.A 10) "kind"])<|.A 9,.I .NotEq (.A 11)<|.K "len" [.A 7]]) [.B<|.S false] []) i o=.ok (.Aa,i) o:=
  aH (bD (am (bf (vs:=[.A<|aQ<|bM 0 6<|lk++b,.A<|aQ<|bM 6 12<|lk++b,.B tr,.A kd])<|ae (bB (aa D)<|Q rfl)<|ae (bB (aa D)<|Q rfl)<|ae (bB (aa D)<|Q rfl)<|ae (bB (aa D)<|Q rfl) aj) (aa x9)<|aek g3 Z)<|bD (am (aa b7) (F J)<|alA rfl) fL)
 refine cM (C.n o _ P3<|aU<|Qf hk<|Qd 5) λx w e4 P4=>aT (dj x (m:=14+4*m)<|mT<|Qf (Qd 14)<|QJ (Qd 4)<|QO m) λj hj qj=>?_;have K:(o.set 1 w)[r]?=some (.A<|ay lk):=by haveI:=kM (o:=w) (G:=[]) nr J;rwa [QF] at this
 haveI b8:(o.set 1 w)[ro]?=some (.A<|ay b):=by haveI:=kM (o:=w) (G:=[]) A.no a0;rwa [QF] at this
 haveI sl:ak c (.N (.A 7) .J<|.E .Mod (.G (.F 41) [.A 1])<|.K "len" [.A 7]) i o=.ok (.B (o.set 1 w).length) (o.set 1 w++[O.A<|ay<|bM 0 j lk]):=
  dX (aa x7) rfl (aq (av (ae (aa x1) aj) e4) (F K)<|(bL (q:=(14+4*m:Nat))<|Zf.mpr<|Qr (ZD 13)<|Qq 14 _).trans<|by exact af qj rfl) ((gp K (a:=0) rfl (dW (i:=j)<|eJ<|Qa (Zq hj)<|Qf (Qd 14)<|QJ (Qd 4) s)<|by exact af aR<|aU<|Qa (Qk a)<|Qf (Qd 14)<|QJ (Qd 4) s).trans<|by exact af jE rfl)
 have cl:(bM 0 j lk).length=j:=by unfold bM;exact af QK<|af QL<|ZE<|Qa (Zq hj)<|Qk a.symm
 refine bC (C.sh (o.set 1 w++[O.A<|ay<|bM 0 j lk]) (bM 0 j lk) ((hE _<|sM.trans<|List.prefix_append _ _).trans<|by exact af (Qh<|Qv (Qk cl) hj) rfl)<|aU<|Qa (Qk cl)<|Qa (Zq hj)<|QB (Zm 4 s) 14) λG5 e5=>?_;haveI s4:aN c (.C (.U<|.G (.F 56) [.K "bytes" [.N (.A 7) .J<|.E .Mod (.G (.F 41) [.A 1])<|.K "len" [.A 7]]]) [.B<|.S false] []) i o=.ok (.Aa,i) ((o.set 1 w++[O.A<|ay<|bM 0 j lk])++G5):=
  aH (abK<|sv (vs:=[.G<|bM 0 j lk]) (ae (bh (vs:=[.B (o.set 1 w).length]) (ae sl aj)<|kS atL<|aU<|Qa (Qk cl)<|Qa (Zq hj)<|QB (Zm 4 s) 14) aj) e5)
 haveI P5:fq ((o.set 1 w++[O.A<|ay<|bM 0 j lk])++G5) (k+6):=P4.Aa.Aa;haveI L:((o.set 1 w++[O.A<|ay<|bM 0 j lk])++G5)[r]?=some (.A<|ay lk):=bc<|bc K;have M:((o.set 1 w++[O.A<|ay<|bM 0 j lk])++G5)[ro]?=some (.A<|ay b):=bc<|bc b8;generalize (o.set 1 w++[O.A<|ay<|bM 0 j lk])++G5=H5 at s4 P5 L M;haveI w6:=yO (c:=c) x7 x5 L M (by exact aU<|Qf (Qa (Qk a)<|QB (Zm 4 s) 14) hb);haveI P6:fq (H5++[O.A<|ay<|lk++b]) (k+6):=P5.Aa;haveI a5:(H5++[O.A<|ay<|lk++b])[r]?=some (.A<|ay lk):=bc L;haveI a6:(H5++[O.A<|ay<|lk++b])[ro]?=some (.A<|ay b):=bc M;generalize H5++[O.A<|ay<|lk++b]=p at w6 P6 a5 a6;haveI fr:xD p (lk++b) (some (v,kd,14+4*m))=some (.ok (.B p.length)<|p++gH p.length kd b lk q):=by
  haveI cb:bM (14+4*m) (lk++b).length (lk++b)=b:=aei a rfl;haveI ca:bM 0 (14+4*m) (lk++b)=lk:=agX a;unfold xD;dsimp only;exact af cb<|af ca<|af A.Aa<|Qh<|aU<|Qf (Qd 14)<|QJ (Qd 4) s
 haveI s5:aN c (.A (.A 8)<|.G (.F 27) [.K "bytes" [.E .Add (.A 7)<|.A 5]]) i H5=.ok (.Aa,i.Aa 8<|.B p.length) (p++gH p.length kd b lk q):=
  az (av (vs:=[.G<|lk++b]) (ae w6 aj)<|xE C.fp dE (by exact aU<|Qa (Qk dl)<|Qf (QB (Zm 4 s) 14) hb) fr)
 refine amU (i.Aa 8<|.B p.length) (p++gH p.length kd b lk q) lk (.B p.length) (p.length+1) (p.length+2) (p.length+3) r (λ{rr} h=>?_) ?_ ⟨rfl,ajI,fJ (k:=0) rfl rfl,bn⟩
 ·exact ah (pS (am (aa A.l4) rfl<|eq_f (n:=0)<|aeC<|leq hf<|Qf (QO m)<|Qd 1)<|ah s1<|ah R<|ah s3<|ah s4<|ah s5 aV) h
 ·exact⟨x1,x2,x4,x5,x6,x7,bc a6,bc a5,A.no,nr,P6.Aa.Ab<|afx (a:=k) (d:=6) (c:=20),A.Ac,A.Ah,A.Ab,aU<|Qa (Qk a)<|Qf (Qd 14)<|QJ (Qd 4) s,A.Aa⟩
theorem stB(C:CFs vf0 c)(A:SA l H kd f ro d b [] q k)(a:k<=1000):StB c l H kd f ro b q k:=by
 cases f with
 |zero=>exact aoy C A rfl
 |succ m=>exact aoz C A a rfl
end
section
section
variable {H G:Hp} {i j k:Nat} {o a b:O}
theorem jI(c:H[i]?=some a)(d:H[j]?=some b)(h:a≠b):i≠j:=λx=>h<|Qb<|c.symm.trans<|x ▸d
theorem dK(h:j≠i)(e:H[i]?=some a):(H.set j o)[i]?=some a:=by refine af (QA h) ?_;exact e
theorem yP(e:H[i]?=some a):(H.set i o)[i]?=some o:=by
 refine bC (Qg.mp e) λh _=>?_;exact QX h
theorem fq.ne(P:fq H k)(e:H[i]?=some a)(h:∀x,a≠.A x):i≠1:=by
 refine oq P λ_ _ _ q _=>?_;clear P;exact jI e q<|h _
theorem fq.Ae(P:fq H k)(c:i≠0)(d:i≠1):fq (H.set i o) k:=P.of (QA c)<|QA d
theorem fq.Af(P:fq H k)(e:H[i]?=some a)(h:∀x,a≠.A x):i≠0:=by
 refine kf P λ_ _ _ _ q _=>?_;clear P;exact jI e q<|h _
end
theorem cP(e:H[s]?=some (.C cn fs))(f:aB a fs=none)(h:aY H v a=some u):aY (H.set s o) v a=some u:=by
 refine kf (jZ h) λi g fs' l d c=>?_;subst l;haveI:s≠i:=jI e d (λx=>by injection x with z2 z3;subst z2;subst z3;rw [f] at c;exact ar c);exact(aw<|dK this d).trans c
section
variable {H G:Hp} {pk:V} {kd d1 d2 k i:Nat} {b lk:List UInt8} {q:aD} {o:O}
theorem kT.Ah(P:fq H k)(h:kT H pk kd b lk q d1 d2):kT (H.set 1 o++G) pk kd b lk q d1 d2:=
 ⟨dF P h.Aa,dF P h.Ad,dF P h.Ac,dF P h.l4,dF P h.Ag,dF P h.Ab,kM (P.ne h.Ae<|λ_ x=>by injection x) h.Ae,kM (P.ne h.Af<|λ_ x=>by injection x) h.Af⟩
theorem kT.Ai(e:H[i]?=some (.B es ep))(h:kT H pk kd b lk q d1 d2):kT (H.set i o) pk kd b lk q d1 d2:=by
 haveI n:∀cn fs,H[i]?≠some (.C cn fs):=λ_ _ x=>by rw [e] at x;haveI c:=Qb x;injection c
 exact⟨dZ h.Aa n,dZ h.Ad n,dZ h.Ac n,dZ h.l4 n,dZ h.Ag n,dZ h.Ab n,dK (jI e h.Ae<|λx=>by injection x) h.Ae,dK (jI e h.Af<|λx=>by injection x) h.Af⟩
theorem kT.Aj(e:H[i]?=some (.C "Scene"<|bq n p2 c tk st d fd f))(h:kT H pk kd b lk q d1 d2):kT (H.set i o) pk kd b lk q d1 d2:=
 ⟨cP e rfl h.Aa,cP e rfl h.Ad,cP e rfl h.Ac,cP e rfl h.l4,cP e rfl h.Ag,cP e rfl h.Ab,dK (jI e h.Ae<|λx=>by injection x) h.Ae,dK (jI e h.Af<|λx=>by injection x) h.Af⟩
end
structure SL(l:Lc)(kd ro rl s mk:Nat)(q:aD):Prop where
 l1:l 1=some (.B 1)
 l2:l 2=some (.A kd)
 l5:l 5=some (.B ro)
 l6:l 6=some (bU q)
 l7:l 7=some (.B rl)
 Aa:l 12=some (.B s)
 Ab:l 13=some (.B mk)
structure SF(H:Hp)(ro rl s fi mk mr:Nat)(pk:V)(nw:Int)(tk:V)(st rp:Int)(rd:Nat)(kd:Nat)(b lk:List UInt8)(q:aD)(d1 d2:Nat)(M:List (Str×V))(k:Nat):Prop where
 Af:H[ro]?=some (.A<|ay b)
 Ai:H[rl]?=some (.A<|ay lk)
 Aa:H[s]?=some (.C "Scene"<|bq s pk (.A nw) tk (.A st) (.A rp) (.B fi)<|.B rd)
 Ac:H[fi]?=some (.B aG none)
 Ad:H[rd]?=some bP
 Aj:kT H pk kd b lk q d1 d2
 Ak:aY H pk "meta"=some (.B mr)
 Ag:H[mr]?=some (.B M<|some 9)
 Ah:H[mk]?=some (.B M none)
 Ab:fq H k
 no:ro≠1
 nl:rl≠1
end
section
section
variable {H G:Hp} {ro rl s fi mk mr rd kd d1 d2 k j:Nat} {pk tk:V} {nw st rp:Int} {b lk:List UInt8} {q:aD} {M:List (Str×V)} {o:O}
theorem SF.Al(F:SF H ro rl s fi mk mr pk nw tk st rp rd kd b lk q d1 d2 M k)(P:fq (H.set 1 o++G) j):SF (H.set 1 o++G) ro rl s fi mk mr pk nw tk st rp rd kd b lk q d1 d2 M j where
 Af:=kM F.no F.Af
 Ai:=kM F.nl F.Ai
 Aa:=kM (F.Ab.ne F.Aa<|λ_ x=>by injection x) F.Aa
 Ac:=kM (F.Ab.ne F.Ac<|λ_ x=>by injection x) F.Ac
 Ad:=kM (F.Ab.ne F.Ad<|λ_ x=>by injection x) F.Ad
 Aj:=F.Aj.Ah F.Ab
 Ak:=dF F.Ab F.Ak
 Ag:=kM (F.Ab.ne F.Ag<|λ_ x=>by injection x) F.Ag
 Ah:=kM (F.Ab.ne F.Ah<|λ_ x=>by injection x) F.Ah
 Ab:=P
 no:=F.no
 nl:=F.nl
theorem ael(P:fq H k):∃o,H[1]?=some o/\H.set 1 o=H:=by
 refine oq P λ_ _ _ e _=>?_;clear P;refine bC (Qg.mp e) λh a=>?_;exact bv _ e (by exact cI a<|List.set_getElem_self h)
theorem SF.Ae(F:SF H ro rl s fi mk mr pk nw tk st rp rd kd b lk q d1 d2 M k):SF (H++G) ro rl s fi mk mr pk nw tk st rp rd kd b lk q d1 d2 M k:=by
 refine aT (ael F.Ab) λo _ e=>?_;haveI:=F.Al (o:=o) (G:=G) (j:=k) (by exact af e F.Ab.Aa)
 rwa [e] at this
theorem SF.Am(F:SF H ro rl s fi mk mr pk nw tk st rp rd kd b lk q d1 d2 M k)(d:o=.C "Scene" (bq s pk (.A nw) tk' (.A st') (.A rp') (.B fi)<|.B rd)):SF (H.set s o) ro rl s fi mk mr pk nw tk' st' rp' rd kd b lk q d1 d2 M k:=by
 subst d;haveI n:∀{i:Nat} {a:O},H[i]?=some a->(∀c f,a≠.C c f)->(H.set s<|.C "Scene"<|bq s pk (.A nw) tk' (.A st') (.A rp') (.B fi)<|.B rd)[i]?=some a:=λe h=>dK (jI F.Aa e<|λx=>h _ _ x.symm) e;exact⟨n F.Af<|λ_ _ x=>by injection x,n F.Ai<|λ_ _ x=>by injection x,yP F.Aa,n F.Ac<|λ_ _ x=>by injection x,n F.Ad<|λ_ _ x=>by injection x,F.Aj.Aj F.Aa,cP F.Aa rfl F.Ak,n F.Ag<|λ_ _ x=>by injection x,n F.Ah<|λ_ _ x=>by injection x,F.Ab.Ae (F.Ab.Af F.Aa<|λ_ x=>by injection x)<|F.Ab.ne F.Aa<|λ_ x=>by injection x,F.no,F.nl⟩
end
theorem aoA(C:CFs vf0 c)(A:SA l H kd f ro rl b lk q k)(B:SB l H pk kd b lk q d1 d2 mr)(hk:k<=2000):
 ∃l' H' s fi mk M nw,(∀{W:bJ (Fl×Lc)},au c (cF.Aa.drop 12) l' H'=W->au c (cF.Aa.drop 8) l H=W)/\SL l' kd ro rl s mk q/\SF H' ro rl s fi mk mr pk nw .C 1 0 (s+3) kd b lk q d1 d2 M (k+10)/\Mk9 M/\fi<mk/\mr<mk/\s+3<mk:=by
 haveI hb:=A.Ab;haveI a9:=A.Af;haveI s1:aN c (.C (.U<|.G (.F 59) [.A 8,.A 2,.A 5,.A 7,.A 6]) [.B<|.S false] []) l H=.ok (.Aa,l) H:=
  aH (abK<|sv (vs:=[pk,.A kd,.B ro,.B rl,bU q]) (ae (aa B.l8)<|ae (aa A.l2)<|ae (aa A.l5)<|ae (aa A.l7)<|ae (aa A.l6) aj)<|C.tl H pk kd ro rl b lk q d1 d2 B.is A.Ad A.Ag A.Aa (Qa ‹_› lb)<|Qa ‹_› lb)
 refine bC (C.al H) λG e1=>?_;haveI P1:fq (H++(.B aG none::G)) k:=A.Ae.Aa;refine dN (afq C.n P1 (l:=l) (Qa ‹_› lb) A.l1 (m:=100000) lb) λj v hj e2 P2=>?_;haveI e3:=C.sc ((H++(.B aG none::G)).set 1 v) pk (.B H.length)<|.A<|10+(j:Int);haveI K:aN c (.A (.A 12)<|.G (.F 63) [.A 8,.G (.F 10) [],.E .Add (.B 10)<|.E .Mod (.G (.F 41) [.A 1])<|.B 100000]) l H=.ok (.Aa,l.Aa 12<|.B ((H++(.B aG none::G)).set 1 v).length) _:=
  az (av (ae (aa B.l8)<|ae (av aj e1)<|ae (aq rfl e2 rfl) aj) e3)
 have hn:=A.Ae.Ac;have Y:mr≠1:=A.Ae.ne B.mr (λ_ x=>by injection x);have g:∀{i:Nat} {a:O},i≠1->(H++(.B aG none::G))[i]?=some a->((H++(.B aG none::G)).set 1 v)[i]?=some a:=λh e=>dK h.symm e;haveI m:kT ((H++(.B aG none::G)).set 1 v) pk kd b lk q d1 d2:=by
  haveI:=B.is.Ah (o:=v) (G:=.B aG none::G) A.Ae
  rwa [←fA hn] at this
 haveI L:aY ((H++(.B aG none::G)).set 1 v) pk "meta"=some (.B mr):=by
  haveI:=dF (o:=v) (G:=.B aG none::G) A.Ae B.mt
  rwa [←fA hn] at this
 haveI N:=g A.no<|bc A.Ad;haveI P:=g A.nl<|bc A.Ag;haveI z:((H++(.B aG none::G)).set 1 v)[H.length]?=some (.B aG none):=g (ZA ‹_›)<|bn (k:=0);haveI Q:=g Y<|bc B.mr;have Z:mr<H.length:=(Qg.mp B.mr).1;have lH:H.length<((H++(.B aG none::G)).set 1 v).length:=by(refine af Qo<|af Qi<|af QG ?_);lia
 generalize (H++(.B aG none::G)).set 1 v=d at K P2 m L N P z Q lH;generalize H.length=fi at K z Z lH;haveI D:fq (d++(.C "Scene" (bq d.length pk (.A<|10+(j:Int)) .C (.A 1) (.A 0) (.B fi)<|.B<|d.length+3)::cJ)) (k+1):=P2.Aa;haveI R:kT (d++(.C "Scene" (bq d.length pk (.A<|10+(j:Int)) .C (.A 1) (.A 0) (.B fi)<|.B<|d.length+3)::cJ)) pk kd b lk q d1 d2:=⟨aW m.Aa,aW m.Ad,aW m.Ac,aW m.l4,aW m.Ag,aW m.Ab,bc m.Ae,bc m.Af⟩;have E:aY (d++(.C "Scene" (bq d.length pk (.A<|10+(j:Int)) .C (.A 1) (.A 0) (.B fi)<|.B<|d.length+3)::cJ)) pk "meta"=some (.B mr):=aW L;haveI r:(d++(.C "Scene" (bq d.length pk (.A<|10+(j:Int)) .C (.A 1) (.A 0) (.B fi)<|.B<|d.length+3)::cJ))[d.length]?=some (.C "Scene"<|bq d.length pk (.A<|10+(j:Int)) .C (.A 1) (.A 0) (.B fi)<|.B<|d.length+3):=bn (k:=0);haveI w:(d++(.C "Scene" (bq d.length pk (.A<|10+(j:Int)) .C (.A 1) (.A 0) (.B fi)<|.B<|d.length+3)::cJ))[d.length+3]?=some bP:=bn;haveI F:=bc (B:=.C "Scene" (bq d.length pk (.A<|10+(j:Int)) .C (.A 1) (.A 0) (.B fi)<|.B<|d.length+3)::cJ) N;haveI I:=bc (B:=.C "Scene" (bq d.length pk (.A<|10+(j:Int)) .C (.A 1) (.A 0) (.B fi)<|.B<|d.length+3)::cJ) P;haveI J:=bc (B:=.C "Scene" (bq d.length pk (.A<|10+(j:Int)) .C (.A 1) (.A 0) (.B fi)<|.B<|d.length+3)::cJ) z;have t:=bc (B:=.C "Scene" (bq d.length pk (.A<|10+(j:Int)) .C (.A 1) (.A 0) (.B fi)<|.B<|d.length+3)::cJ) Q;haveI lS:d.length+3<(d++(.C "Scene" (bq d.length pk (.A<|10+(j:Int)) .C (.A 1) (.A 0) (.B fi)<|.B<|d.length+3)::cJ)).length:=by refine af Qi ?_;show _<d.length+10;lia
 generalize d++(.C "Scene" (bq d.length pk (.A<|10+(j:Int)) .C (.A 1) (.A 0) (.B fi)<|.B<|d.length+3)::cJ)=n at K D R E r w F I J t lS;generalize d.length=s at K r w lH lS;generalize (10+(j:Int))=nw at r;refine dN (C.mr n (k+1) pk mr D (Qv ‹_› lb) E t) λu M e4 hM P4=>?_;haveI s3:aN c (.A (.A 13)<|.G (.F 57) [.A 1,.A 8]) (l.Aa 12<|.B s) n=.ok (.Aa,(l.Aa 12<|.B s).Aa 13<|.B n.length) _:=az<|av (ae (aa A.l1)<|ae (aa B.l8) aj) e4;haveI s4:aN c (.C (.I .Is (.A 13) .J) [.B<|.S false] []) ((l.Aa 12<|.B s).Aa 13<|.B n.length) ((n.set 1 u).set mr (.B M<|some 9)++[O.B M none])=.ok (.Aa,_) _:=aH<|fP (aa rfl) rfl;refine⟨(l.Aa 12<|.B s).Aa 13<|.B n.length,(n.set 1 u).set mr (.B M<|some 9)++[O.B M none],s,fi,n.length,M,nw,λ{W} h=>ah s1<|ah K<|ah s3<|ah s4 h,⟨A.l1,A.l2,A.l5,A.l6,A.l7,rfl,rfl⟩,?_,hM,by lia,by lia,by assumption⟩;haveI lo:((n.set 1 u).set mr<|.B M<|some 9).length=n.length:=by(exact af Qo<|af Qo rfl)
 have g1:∀{i:Nat} {a:O},i≠1->n[i]?=some a->(n.set 1 u)[i]?=some a:=λh e=>dK h.symm e;haveI y:=g1 Y t;have U:∀{i:Nat} {a:O},i≠1->mr≠i->n[i]?=some a->((n.set 1 u).set mr (.B M<|some 9)++[O.B M none])[i]?=some a:=λh h2 e=>bc<|dK h2<|g1 h e;haveI a1:kT (n.set 1 u) pk kd b lk q d1 d2:=by
  haveI:=R.Ah (o:=u) (G:=[]) D
  rwa [QF] at this
 haveI p:kT ((n.set 1 u).set mr<|.B M<|some 9) pk kd b lk q d1 d2:=a1.Ai y;haveI a2:aY (n.set 1 u) pk "meta"=some (.B mr):=by
  haveI:=dF (o:=u) (G:=[]) D E
  rwa [QF] at this
 haveI a3:aY ((n.set 1 u).set mr<|.B M<|some 9) pk "meta"=some (.B mr):=dZ a2 (λ_ _ x=>by rw [y] at x;haveI z1:=Qb x;injection z1);exact {
  Af:=U A.no (jI t F<|λx=>by injection x) F
  Ai:=U A.nl (jI t I<|λx=>by injection x) I
  Aa:=U (D.ne r<|λ_ x=>by injection x) (jI t r<|λx=>by injection x) r
  Ac:=U (D.ne J<|λ_ x=>by injection x) (QC ‹_›) J
  Ad:=U (D.ne w<|λ_ x=>by injection x) (by lia) w
  Aj:=⟨aW p.Aa,aW p.Ad,aW p.Ac,aW p.l4,aW p.Ag,aW p.Ab,bc p.Ae,bc p.Af⟩
  Ak:=aW a3
  Ag:=bc (yP y)
  Ah:=abQ lo
  Ab:=((P4.Ae (P4.Af y<|λ_ x=>by injection x) Y).Aa).Ab (by lia)
  no:=A.no
  nl:=A.nl}
end
section
theorem nX(h:H[i]?=some (.B es ep)):xF H (.B i) k=some ((aB k es).getD .C):=by
 show(Option.elim H[i]? none λa=>oC none a (dict:=λl _=>some<|(aB k l).getD .C))=_;exact af h rfl
section
variable {vf0:Hp->V->Str->Option V} {c:CF} {l:Lc} {H G:Hp} {ro rl s fi mk mr rd kd d1 d2 k j:Nat} {pk tk:V} {nw st rp:Int} {b lk:List UInt8} {q:aD} {M:List (Str×V)} {o:O}
theorem SF.at(F:SF H ro rl s fi mk mr pk nw tk st rp rd kd b lk q d1 d2 M k)(h:aB a (bq s pk (.A nw) tk (.A st) (.A rp) (.B fi)<|.B rd)=some u):aY H (.B s) a=some u:=(aw F.Aa).trans h
theorem aaM(C:CFs vf0 c)(F:SF H ro rl s fi mk mr pk nw tk st rp rd kd b lk q d1 d2 M k)(d:aB n aG=some f)(a:ja f=some t)(e:t.length<=1000):∃G,c 55 [.B s,.D n] H=.ok (.D<|Str.ofString "no reader for "++t) (H++G):=by
 refine C.rf H (.B s) n _<|agu C.vo ?_;refine(aw<|F.at rfl).trans<|(aw<|(nX F.Ac).trans<|Qt (λx=>some<|x.getD V.C) d).trans ?_;show(if dH f=true then _ else _)=_;refine af (yH a)<|(Qe Zv).trans<|(aw a).trans<|(aw<|F.at rfl).trans<|(aw<|nX F.Ad).trans ?_;exact(Qh rfl).trans<|Qh e
noncomputable abbrev aem:List S:=[.C (.I .NotEq (.G (.F 55) [.A 12,.A 14])<|.E .Add (.C "no reader for ")<|.A 15) [.B<|.S false] []]
theorem agZ(C:CFs vf0 c)(F:SF H ro rl s fi mk mr pk nw tk st rp rd kd b lk q d1 d2 M k)(i:aB n aG=some f)(m:ja f=some t)(p:t.length<=100)(h:PyData.strOk (Str.ofString "no reader for "++t)=true)(a:l 12=some (.B s))(d:l 14=some (.D n))(g:l 15=some (.D t)):
 ∃G,au c aem l H=.ok (.Aa,l) (H++G):=by
 exact bC (aaM C F i m<|Qa ‹_› lb) λG e=>⟨G,ah (aH<|am (av (ae (aa a)<|ae (aa d) aj) e) (ace (by decide+kernel) p g)<|tS h h<|iZ rfl) aV⟩
theorem aoB(C:CFs vf0 c)(F:SF H ro rl s fi mk mr pk nw tk st rp rd kd b lk q d1 d2 M k)(L:SL l kd ro rl s mk q):
 ∃l' H',(∀{d:bJ (Fl×Lc)},au c (cF.Aa.drop 13) l' H'=d->au c (cF.Aa.drop 12) l H=d)/\SL l' kd ro rl s mk q/\SF H' ro rl s fi mk mr pk nw tk st rp rd kd b lk q d1 d2 M k:=by
 refine aT (Option.bind_eq_some_iff.mp (by kernel_rfl):∃f,aB "ip id" aG=some f/\ja f=some "payload") λA m n=>aT (Option.bind_eq_some_iff.mp (by kernel_rfl):∃f,aB "meta mark" aG=some f/\ja f=some "meta") λB p r=>aT (Option.bind_eq_some_iff.mp (by kernel_rfl):∃f,aB "ct state" aG=some f/\ja f=some "ct") λD t u=>bC (agZ (l:=(l.Aa 14<|.D "ip id").Aa 15<|.D "payload") C F m n (by decide+kernel) (by decide+kernel) L.Aa rfl rfl) λa v=>bC (agZ (l:=(((l.Aa 14<|.D "ip id").Aa 15<|.D "payload").Aa 14<|.D "meta mark").Aa 15<|.D "meta") C (F.Ae (G:=a)) p r (by decide+kernel) (by decide+kernel) L.Aa rfl rfl) λe w=>bC (agZ (l:=(((((l.Aa 14<|.D "ip id").Aa 15<|.D "payload").Aa 14<|.D "meta mark").Aa 15<|.D "meta").Aa 14<|.D "ct state").Aa 15<|.D "ct") C ((F.Ae (G:=a)).Ae (G:=e)) t u (by decide+kernel) (by decide+kernel) L.Aa rfl rfl) λi z=>?_;haveI g:∀{l:Lc} {H:Hp} {x y:V},jc c (.D [.A 14,.A 15]) (.F [x,y]) l H=.ok ((l.Aa 14 x).Aa 15 y) H:=fc rfl<|aS rfl<|aS rfl cZ;haveI s1:aN c (.E (.D [.A 14,.A 15]) (.D [.D [.C "ip id",.C "payload"],.D [.C "meta mark",.C "meta"],.D [.C "ct state",.C "ct"]]) aem) l H=.ok (.Aa,_) (((H++a)++e)++i):=
  eF (v:=.F [.F [.D "ip id",.D "payload"],.F [.D "meta mark",.D "meta"],.F [.D "ct state",.D "ct"]]) rfl (fH rfl g v<|fH rfl g w<|fH rfl g z<|mK rfl)
 exact qe _ _ (λ{d} h=>ah s1 h) ⟨L.l1,L.l2,L.l5,L.l6,L.l7,L.Aa,L.Ab⟩<|((F.Ae (G:=a)).Ae (G:=e)).Ae (G:=i)
end
end
section
section
variable {vf0:Hp->V->Str->Option V} {c:CF} {l:Lc} {H G:Hp} {ro rl s fi mk mr rd kd d1 d2 k j:Nat} {pk tk:V} {nw st rp:Int} {b lk:List UInt8} {q:aD} {M:List (Str×V)} {o:O}
theorem SF.An(F:SF H ro rl s fi mk mr pk nw tk st rp rd kd b lk q d1 d2 M k)(P:fq (H.set 1 o) j):SF (H.set 1 o) ro rl s fi mk mr pk nw tk st rp rd kd b lk q d1 d2 M j:=by
 haveI:=F.Al (o:=o) (G:=[]) (j:=j) (by rwa [QF])
 rwa [QF] at this
theorem aoC(C:CFs vf0 c)(F:SF H ro rl s fi mk mr pk nw tk st rp rd kd b lk q d1 d2 M k)(L:SL l kd ro rl s mk q)(Y:k<=1900):
 ∃H' tk' g st' rp',(∀{m:bJ (Fl×Lc)},au c (cF.Aa.drop 15) l H'=m->au c (cF.Aa.drop 13) l H=m)/\SF H' ro rl s fi mk mr pk nw tk' st' rp' rd kd b lk q d1 d2 M (k+22)/\rc H' (.B s) tk' g:=by
 refine dN (afq C.n F.Ab (Qa ‹_› lb) L.l1 (m:=5) lb) λj1 Z h1 e1 J=>aT (agW (L:=[1,2,4,8,64]) h1) λd _ k1=>dN (afq C.n J (l:=l) (Qv ‹_› lb) L.l1 (m:=2) lb) λe o2 h2 e2 P2=>?_;have p:=(F.An J).An P2;generalize x:(H.set 1 Z).set 1 o2=H2 at p;haveI y:=p.Am (tk':=tk) (st':=d) (rp':=rp) rfl;generalize A:H2.set s _=K at y;have i:=y.Am (tk':=tk) (st':=d) (rp':=e) rfl;generalize B:K.set s _=f at i;haveI s1:aN c (.A (.D [.C (.A 12) "state",.C (.A 12) "is_reply"])<|.D [.H (.D [.B 1,.B 2,.B 4,.B 8,.B 64])<|.E .Mod (.G (.F 41) [.A 1])<|.B 5,.E .Mod (.G (.F 41) [.A 1])<|.B 2]) l H=.ok (.Aa,l) f:=by
  refine cm (bf<|ae (aJ (x:=.F<|([1,2,4,8,64]:List Nat).map λn:Nat=>.A n) rfl e1<|gV k1 lb)<|ae e2 aj)<|fc rfl<|aS (l':=l) (H1:=K) ?_<|aS (l':=l) (H1:=f) ?_ cZ
  ·exact af x<|lJ (aa L.Aa) p.Aa rfl (Qy rfl) A
  ·exact lJ (aa L.Aa) y.Aa rfl (Qy rfl) B
 refine kf (C.tk f _ (.B s) nw i.Ab (aU<|Qf (Qf Y<|Qd 1)<|Qd 1)<|i.at rfl) λo5 G5 v N P Q=>?_;haveI D:=i.Al P;haveI hs:s<f.length:=(Qg.mp i.Aa).1;generalize a9:f.set 1 o5++G5=E at D P Q N;have I:=D.Am (tk':=v) (st':=d) (rp':=e) rfl;have s2:aN c (.A (.C (.A 12) "talk")<|.G (.F 58) [.A 1,.A 12]) l f=.ok (.Aa,l) (E.set s<|.C "Scene"<|bq s pk (.A nw) v (.A d) (.A e) (.B fi)<|.B rd):=
  cm (av (vs:=[.B 1,.B s]) (ae (aa L.l1)<|ae (aa L.Aa) aj) N) (lJ (aa L.Aa) D.Aa rfl (Qy rfl) rfl)
 have T:∃g,rc (E.set s<|.C "Scene"<|bq s pk (.A nw) v (.A d) (.A e) (.B fi)<|.B rd) (.B s) v g:=by
  rcases Q with rfl|⟨r,R,U,z,u,sx,W,rfl,hr,er⟩
  ·exact⟨none,rfl⟩
  ·haveI t:∀{a:Str} {w:V},aB a (sO (.A 1) (cX R) (cX U) (.A z) (.A u) (.A 0) (.A W)<|.A sx)=some w->aY (E.set s<|.C "Scene"<|bq s pk (.A nw) (.B r) (.A d) (.A e) (.B fi)<|.B rd) (.B r) a=some w:=λh=>(aw<|dK (QC<|Qr hs hr) er).trans h;exact⟨some ⟨sx,e,W,z,u,nw,R,U⟩,rfl,⟨t rfl,I.at rfl,t rfl,t rfl,t rfl,I.at rfl,t rfl,t rfl⟩⟩
 refine bC T λg _=>?_;clear T;rename_i T;exact⟨_,v,g,d,e,λ{m} h=>ah s1<|ah s2 h,I,T⟩
end
end
section
section
variable {c:CF} {l l':Lc} {H H1 G:Hp} {e:X}
theorem afs(b:ak c e l H=.ok (.F vs) H1)(h:a.length=vs.length)(d:(a.reverse.zip vs.reverse).foldl (λl p=>l.Aa p.1 p.2) l=l'):aN c (.G a e) l H=.ok (.Aa,l') H1:=by
 show(ak c e l H).Aa _=_;refine af b ?_;show(be (a.length=vs.length) _ H1).Aa _=_;refine af (bT h) ?_;subst d;rfl
theorem aep(h:bK c es l (H++[.B []<|some 0])=.ok vs ((H++[.B []<|some 0])++G)):ak c (.Q (k::ks) es) l H=.ok (.B H.length) (H++(.B (aZ ((k::ks).zip vs) []) none::G)):=by
 rw [Qn] at h;show(bK c es l<|H++[.B []<|some 0]).Aa _=_;refine af h ?_;show(bX H.length<|H++([.B []<|some 0]++G)).Aa _=_;refine af (bO<|bn (k:=0)) ?_;show(ml H.length _<|H++([.B []<|some 0]++G)).Aa _=_;exact af (lu<|bn (k:=0))<|af (show List.set (H++([O.B []<|some 0]++G)) H.length (.B (aZ ((k::ks).zip vs) []) none)=H++(.B (aZ ((k::ks).zip vs) []) none::G) from fO (k:=0)) rfl
theorem ve:lP x v es none=.B (bz x v es) none:=by
 unfold lP;split<;>rfl
theorem aeq(x:List UInt8):∀y:List UInt8,PyData.eqvAll (x.map λu=>PyData.int u.toNat) (y.map λu=>PyData.int u.toNat)=decide (x=y):=by
 induction x with
 |nil=>
  intro y
  cases y with|nil=>rfl|cons=>rfl
 |cons u x r=>
  intro y
  cases y with
  |nil=>rfl
  |cons v y=>
   show(PyData.eqv (.int (u.toNat:Int)) (.int (v.toNat:Int))&&PyData.eqvAll (x.map λu=>PyData.int u.toNat) (y.map λu=>PyData.int u.toNat))=_;refine af (r y) ?_;haveI e:PyData.eqv (.int (u.toNat:Int)) (.int (v.toNat:Int))=decide (u=v):=by
    simp only [PyData.eqv];rw [Bool.eq_iff_iff];simp only [decide_eq_true_eq,beq_iff_eq];exact⟨λh=>UInt8.toNat_inj.mp<|Int.ofNat_inj.mp h,λh=>h ▸rfl⟩
   refine af e ?_
   by_cases a:u=v
   ·by_cases b:x=y
    ·simp [a,b]
    ·simp [a,b]
   ·simp [a]
theorem rt{x:List UInt8}:SeqAt.shaped (.list<|x.map λu=>PyData.int u.toNat)=true:=by
 simp [SeqAt.shaped,PyData.canLay0,PyData.depth,pt,kJ]
theorem acl(h:H[i]?=some (.A<|ay x)):toPy 8 H (.B i)=some (.list<|x.map λu=>PyData.int u.toNat):=by
 show(Option.elim H[i]? none λa=>oC none a (list:=λl=>(cC (toPy 7 H) l).map PyData.list))=_;refine af h ?_;show(cC (toPy 7 H)<|ay x).map PyData.list=_;exact af (pq (m:=6) ..) rfl
theorem eq_octs(a:H[i]?=some (.A<|ay x))(b:H[j]?=some (.A<|ay y)):eO .Eq (.B i) (.B j) H=.ok (.E (decide (x=y))) H:=by
 have e:eqV H (.B i) (.B j)=some (decide (x=y)):=by
  rw [ajq<|ud a];unfold eqP;rw [acl a,acl b];show(if(SeqAt.shaped (.list<|x.map λu=>PyData.int u.toNat)&&SeqAt.shaped (.list<|y.map λu=>PyData.int u.toNat))=true then some (PyData.eqv (.list<|x.map λu=>PyData.int u.toNat)<|.list<|y.map λu=>PyData.int u.toNat) else none)=_;rw [rt,rt];refine(Qh rfl).trans<|Qt some ?_;have:=aeq x y
  simpa only [PyData.eqv] using this
 show zB (eqV H (.B i)<|.B j) H=_;rw [e];rfl
end
def kY(kd:Nat)(b:List UInt8)(q:aD)(M:List (Str×V)):List (Str×V):=bz "nfproto" (qh kd)<|bz "l4proto" (l4N q)<|bz "protocol" (.A kd)<|bz "length" (.A b.length) M
theorem yQ:∀r∈gU,r.1="l4proto"∨r.1="nfproto"∨r.1="length"∨r.1="protocol"∨r.1∈K9:=by decide+kernel
theorem ajK:∀x∈K9,x≠"l4proto"/\x≠"nfproto"/\x≠"length"/\x≠"protocol":=by decide+kernel
theorem aer(h:Mk9 M):∀r∈gU,aB r.1 (kY kd b q M)=some (mvF kd b q M r.1):=by
 intro r i;unfold kY mvF;rcases yQ r i with e|e|e|e|e
 ·exact af e<|(aX dd _).trans<|gC _
 ·exact af e<|gC _
 ·exact af e<|(aX dd _).trans<|(aX dd _).trans<|(aX dd _).trans<|gC _
 ·exact af e<|(aX dd _).trans<|(aX dd _).trans<|gC _
 ·refine gF (ajK _ e) λa d f g=>af (Qe a)<|af (Qe d)<|af (Qe f)<|af (Qe g)<|(aX d.symm _).trans<|(aX a.symm _).trans<|(aX g.symm _).trans<|(aX f.symm _).trans ?_;haveI:=h.Aa e;rw [kG] at this;exact bC (Option.isSome_iff_exists.mp this) λv j=>af j rfl
end
section
structure SG(H:Hp)(ro rl s fi mk mr:Nat)(pk:V)(nw:Int)(tk:V)(st rp:Int)(rd:Nat)(kd:Nat)(b lk:List UInt8)(q:aD)(d1 d2:Nat)(M M2:List (Str×V))(td:Option cv):Prop where
 Af:H[ro]?=some (.A<|ay b)
 Ag:H[rl]?=some (.A<|ay lk)
 Aa:H[s]?=some (.C "Scene"<|bq s pk (.A nw) tk (.A st) (.A rp) (.B fi)<|.B rd)
 Ae:H[fi]?=some (.B aG none)
 Ab:kT H pk kd b lk q d1 d2
 Ai:aY H pk "meta"=some (.B mr)
 Ah:H[mr]?=some (.B M<|some 9)
 Ac:H[mk]?=some (.B M2 none)
 Aj:H[rd]?=some bP
 ts:rc H (.B s) tk td
section
variable {c:CF} {l:Lc} {H G:Hp} {ro rl s fi mk mr rd kd d1 d2 k j:Nat} {pk tk:V} {nw st rp:Int} {b lk:List UInt8} {q:aD} {M M2:List (Str×V)} {o:O} {td:Option cv}
theorem SG.at(F:SG H ro rl s fi mk mr pk nw tk st rp rd kd b lk q d1 d2 M M2 td)(h:aB a (bq s pk (.A nw) tk (.A st) (.A rp) (.B fi)<|.B rd)=some u):aY H (.B s) a=some u:=(aw F.Aa).trans h
theorem SG.Ad(F:SG H ro rl s fi mk mr pk nw tk st rp rd kd b lk q d1 d2 M M2 td):SG (H++G) ro rl s fi mk mr pk nw tk st rp rd kd b lk q d1 d2 M M2 td where
 Af:=bc F.Af
 Ag:=bc F.Ag
 Aa:=bc F.Aa
 Ae:=bc F.Ae
 Ab:=⟨aW F.Ab.Aa,aW F.Ab.Ad,aW F.Ab.Ac,aW F.Ab.l4,aW F.Ab.Ag,aW F.Ab.Ab,bc F.Ab.Ae,bc F.Ab.Af⟩
 Ai:=aW F.Ai
 Ah:=bc F.Ah
 Ac:=bc F.Ac
 Aj:=bc F.Aj
 ts:=F.ts.Aa<|λ_ _ _ h=>aW h
theorem SG.Ak(F:SG H ro rl s fi mk mr pk nw tk st rp rd kd b lk q d1 d2 M M2 td)(e:H[i]?=some (.B es ep))(a:i≠fi)(d:i≠mr)(f:i≠rd)(g:(H.set i o)[mk]?=some (.B m none)):SG (H.set i o) ro rl s fi mk mr pk nw tk st rp rd kd b lk q d1 d2 M m td:=by
 have n:∀cn fs,H[i]?≠some (.C cn fs):=λ_ _ x=>by rw [e] at x;haveI p:=Qb x;injection p
 exact⟨dK (jI e F.Af<|λx=>by injection x) F.Af,dK (jI e F.Ag<|λx=>by injection x) F.Ag,dK (jI e F.Aa<|λx=>by injection x) F.Aa,dK a F.Ae,F.Ab.Ai e,dZ F.Ai n,dK d F.Ah,g,dK f F.Aj,F.ts.Aa<|λ_ _ _ h=>dZ h n⟩
theorem ta(F:SG H ro rl s fi mk mr pk nw tk st rp rd kd b lk q d1 d2 M M2 td)(d:fi≠mk)(e:mr≠mk)(f:rd≠mk)(a:l 13=some (.B mk))(g:M2.length<=1000):
 SG (H.set mk<|.B (bz x u M2) none) ro rl s fi mk mr pk nw tk st rp rd kd b lk q d1 d2 M (bz x u M2) td/\jc c (.B (.A 13)<|.C x) u l H=.ok l (H.set mk<|.B (bz x u M2) none):=
 ⟨F.Ak F.Ac d.symm e.symm f.symm<|yP F.Ac,nM (aa a) rfl F.Ac (Qa ‹_› lb)<|by exact af ve rfl⟩
end
section
variable {vf0:Hp->V->Str->Option V} {c:CF} {l:Lc} {H G:Hp} {ro rl s fi mk mr rd kd d1 d2 k j:Nat} {pk tk:V} {nw st rp:Int} {b lk:List UInt8} {q:aD} {M M2:List (Str×V)} {o:O} {td:Option cv}
theorem ajL(a:l 6=some (bU q)):ak c (.O (.I .Is (.A 6) .J) .J<|.H (.A 6)<|.B 0) l H=.ok (l4N q) H:=by
 cases q with
 |none=>exact cf (fP (aa a) rfl) rfl
 |some x=>exact ci (fP (aa a) rfl)<|aJ (aa a) rfl rfl
theorem ajM(a:l 6=some (bU q)):ak c (.O (.I .Is (.A 6) .J) (.T<|.B 1)<|.H (.A 6)<|.B 0) l H=.ok (.A<|l4I q) H:=by
 cases q with
 |none=>exact cf (fP (aa a) rfl)<|jL rfl
 |some x=>exact ci (fP (aa a) rfl)<|aJ (aa a) rfl rfl
theorem ajN(f:l 2=some (.A kd)):ak c (.O (.I .Eq (.A 2)<|.B 2048) (.B 2)<|.O (.I .Eq (.A 2)<|.B 34525) (.B 10)<|.O (.I .Eq (.A 2)<|.B 2054) (.B 3)<|.B 0) l H=.ok (qh kd) H:=by
 have t:∀{n:Nat} {k:Bool},decide (kd=n)=k->bj c (.I .Eq (.A 2)<|.B n) l H=.ok k H:=λ{n k} h=>am (aa f) rfl (by
  subst h
  by_cases z:kd=n
  ·exact af (QY z)<|eq_t z
  ·exact af (QT z)<|eq_f z)
 unfold qh
 by_cases a:kd=2048
 ·exact af (Qh a)<|cf (t (n:=2048)<|QY a) rfl
 refine af (Qe a)<|ci (t (n:=2048)<|QT a) ?_
 by_cases d:kd=34525
 ·exact af (Qh d)<|cf (t (n:=34525)<|QY d) rfl
 refine af (Qe d)<|ci (t (n:=34525)<|QT d) ?_
 by_cases e:kd=2054
 ·exact af (Qh e)<|cf (t (n:=2054)<|QY e) rfl
 ·exact af (Qe e)<|ci (t (n:=2054)<|QT e) rfl
theorem aoD(F:SF H ro rl s fi mk mr pk nw tk st rp rd kd b lk q d1 d2 M k)(T:rc H (.B s) tk td)(L:SL l kd ro rl s mk q)(i:Mk9 M)(B:b.length<=170)(a:fi≠mk)(d:mr≠mk)(e:rd≠mk):
 ∃H',(∀{f:bJ (Fl×Lc)},au c (cF.Aa.drop 18) (l.Aa 16<|.A<|l4I q) H'=f->au c (cF.Aa.drop 15) l H=f)/\SG H' ro rl s fi mk mr pk nw tk st rp rd kd b lk q d1 d2 M (kY kd b q M) td:=by
 haveI m:SG H ro rl s fi mk mr pk nw tk st rp rd kd b lk q d1 d2 M M td:=⟨F.Af,F.Ai,F.Aa,F.Ac,F.Aj,F.Ak,F.Ag,F.Ah,F.Ad,T⟩;have g:M.length=9:=by haveI:=Qt List.length i.1;rwa [QU] at this
 refine aP (ta (c:=c) (l:=l) (x:="length") (u:=.A b.length) m a d e L.Ab<|aU<|Qk g) λn p=>?_;haveI r:=dM (x:="length") (v:=V.A b.length) M;refine aP (ta (c:=c) (l:=l) (x:="protocol") (u:=.A kd) n a d e L.Ab<|aU<|Qa r<|Qf (Qk g)<|Qd 1) λt u=>?_;haveI C:=dM (x:="protocol") (v:=V.A kd)<|bz "length" (V.A b.length) M;refine aP (ta (c:=c) (l:=l) (x:="l4proto") (u:=l4N q) t a d e L.Ab<|by lia) λv w=>?_;haveI D:=dM (x:="l4proto") (v:=l4N q)<|bz "protocol" (V.A kd)<|bz "length" (V.A b.length) M;refine aP (ta (c:=c) (l:=l) (x:="nfproto") (u:=qh kd) v a d e L.Ab<|by lia) λx y=>?_;haveI s1:=cm (c:=c) (bf<|ae (bh (ae (aa L.l5) aj)<|(gk F.Af<|by exact af aR<|Qa ‹_› lb).trans<|by exact af aR rfl)<|ae (aa L.l2)<|ae (ajL L.l6) aj)<|fc rfl<|aS p<|aS u<|aS w cZ;haveI z:=cm (c:=c) (ajN L.l2) y;haveI A:∀{H':Hp},aN c (.A (.A 16)<|.O (.I .Is (.A 6) .J) (.T<|.B 1)<|.H (.A 6)<|.B 0) l H'=.ok (.Aa,l.Aa 16<|.A<|l4I q) H':=az<|ajM L.l6;exact bv _ (λ{f} h=>ah s1<|ah z<|ah A h) x
end
end
section
def kZ(b lk:List UInt8)(q:aD):List (Str×V):=[("network",(iT b lk q "network").v),("transport",(iT b lk q "transport").v),("link",(iT b lk q "link").v)]
section
variable {vf0:Hp->V->Str->Option V} {c:CF} {l:Lc} {H G:Hp} {ro rl kd r:Nat} {b lk:List UInt8} {q:aD}
theorem aft(a:ak c e l H=.ok (.E x) H)(d:ak c f l H=.ok (.E y) H):ak c (.P true [e,f]) l H=.ok (.E<|x&&y) H:=by
 cases x with
 |false=>exact lI (d:=true) a
 |true=>exact mO (d:=true) a d
theorem aaO(a:l 2=some (.A kd)){n:Nat}:ak c (.I .Eq (.A 2)<|.B n) l H=.ok (.E (decide (kd=n))) H:=ia (aa a) rfl (by
 by_cases z:kd=n
 ·exact af (QY z)<|eq_t z
 ·exact af (QT z)<|eq_f z)
theorem aes(a:l 16=some (.A j)):ak c (.I .Eq (.A 16)<|.B n) l H=.ok (.E (decide (j=n))) H:=ia (aa a) rfl<|dC rfl
theorem aaP{j:Int}(d:l 2=some (.A kd))(g:l 7=some (.B rl))(a:l 16=some (.A j))(e:H[rl]?=some (.A<|ay lk))(m:lk.length<=30):
 ∃G,ak c (.Q ["ether","vlan","arp","ip","ip6","tcp","udp","th","icmp","icmpv6"] [.S true,.I .Eq (.N (.A 7) (.B 12)<|.B 14)<|.M [.B 129,.B 0],.I .Eq (.A 2)<|.B 2054,.I .Eq (.A 2)<|.B 2048,.I .Eq (.A 2)<|.B 34525,.I .Eq (.A 16)<|.B 6,.I .Eq (.A 16)<|.B 17,.S true,.P true [.I .Eq (.A 2)<|.B 2048,.I .Eq (.A 16)<|.B 1],.P true [.I .Eq (.A 2)<|.B 34525,.I .Eq (.A 16)<|.B 58]]) l H=.ok (.B H.length) (H++(.B (gD (jO lk) kd j) none::G)):=by
 generalize f:H++[O.B []<|some 0]=K;haveI h:K[rl]?=some (.A<|ay lk):=f ▸bc e;haveI i:ak c (.I .Eq (.N (.A 7) (.B 12)<|.B 14)<|.M [.B 129,.B 0]) l K=.ok (.E<|jO lk) (K++[.A<|ay<|bM 12 14 lk,.A<|ay [129,0]]):=by
  haveI s1:ak c (.N (.A 7) (.B 12)<|.B 14) l K=.ok (.B K.length) (K++[.A<|ay<|bM 12 14 lk]):=dX (aa g) rfl rfl<|(gp h (a:=12) (b:=14) rfl rfl<|by exact af aR<|Qa ‹_› lb).trans (by exact af jE rfl);haveI k:ak c (.M [.B 129,.B 0]) l (K++[.A<|ay<|bM 12 14 lk])=.ok (.B<|K.length+1) (K++[.A<|ay<|bM 12 14 lk,.A<|ay [129,0]]):=abR (vs:=[.A 129,.A 0]) (ae rfl<|ae rfl aj) rfl rfl;exact ia s1 k<|eq_octs (bn (k:=0)) bn
 refine⟨[.A<|ay<|bM 12 14 lk,.A<|ay [129,0]],?_⟩;exact aep (vs:=[.E true,.E<|jO lk,.E (decide (kd=2054)),.E (decide (kd=2048)),.E (decide (kd=34525)),.E (decide (j=6)),.E (decide (j=17)),.E true,.E (decide (kd=2048)&&decide (j=1)),.E (decide (kd=34525)&&decide (j=58))])<|af f<|ae rfl<|ae i<|ae (aaO (n:=2054) d)<|ae (aaO (n:=2048) d)<|ae (aaO (n:=34525) d)<|ae (aes a)<|ae (aes a)<|ae rfl<|ae (aft (aaO (n:=2048) d)<|aes a)<|ae (aft (aaO (n:=34525) d)<|aes a) aj
theorem acm(h:l i=some (.B r))(a:H[r]?=some (.A<|ay b))(d:b.length<=200):ak c (.E .Mult (.B 8)<|.K "len" [.A i]) l H=.ok (.A (8*b.length:Nat)) H:=
 aq rfl (bh (ae (aa h) aj)<|(gk a<|by exact af aR<|Qa ‹_› lb).trans<|by exact af aR rfl) ((eX (p:=8) (q:=b.length)<|.of_left lb).trans<|by exact af (Int.natCast_mul ..) rfl)
theorem afu(C:CFs vf0 c)(h:l i=some (.B r))(a:H[r]?=some (.A<|ay b))(d:b.length<=200):ak c (.G (.F 44) [.A i]) l H=.ok (.A<|aQ b) H:=av (ae (aa h) aj)<|C.wh H r b a d
theorem aet(d:l 6=some (bU q))(e:l 20=some (.A<|-1)):∃l',aN c (.C (.P true [.I .IsNot (.A 6) .J,.I .Eq (.H (.A 6)<|.B 2)<|.B 0]) [.A (.A 20)<|.E .Mult (.B 8)<|.H (.A 6)<|.B 1] []) l H=.ok (.Aa,l') H/\l' 20=some (qY<|bgn q)/\∀j,j≠20->l' j=l j:=by
 cases q with
 |none=>exact cz l (aH<|cu (d:=true)<|jG (aa d) rfl) e<|λ_ _=>rfl
 |some x=>
  obtain⟨k,a,p,m⟩:=x;haveI f:ak c (.H (.A 6)<|.B 2) l H=.ok (.A p) H:=aJ (aa d) rfl rfl;haveI g:ak c (.H (.A 6)<|.B 1) l H=.ok (.A a) H:=aJ (aa d) rfl rfl
  by_cases z:p=0
  ·refine cz (l.Aa 20<|.A<|8*(a:Int)) (aK (bD (d:=true) (jG (aa d) rfl)<|bD (am f rfl<|eq_t (n:=0) z) fL)<|ah (az<|aq rfl g<|eX<|.of_left lb) aV) ?_<|λj h=>Qe h;show some (V.A<|8*(a:Int))=some (qY<|if p=0 then some (8*a) else none);refine af (Qh z) ?_;show _=some (V.A ((8*a:Nat):Int));exact af (Int.natCast_mul ..) rfl
  ·refine cz l (aH<|bD (d:=true) (jG (aa d) rfl)<|cu (d:=true)<|am f rfl<|eq_f (n:=0) z) ?_<|λ_ _=>rfl;show _=some (qY<|if p=0 then some (8*a) else none);exact af (Qe z) e
end
end
section
section
variable {vf0:Hp->V->Str->Option V} {c:CF} {l:Lc} {H G:Hp} {ro rl s fi mk mr rd kd d1 d2 k j a e:Nat} {pk tk:V} {nw st rp:Int} {b lk:List UInt8} {q:aD} {M M2:List (Str×V)} {o:O} {td:Option cv} {D S_ D' S':DP}
structure Own(H:Hp)(fi mk mr rd a e:Nat)(D S_:DP):Prop where
 ne:a≠e
 Aa:H[a]?=some D.o
 Ab:H[e]?=some S_.o
 n1:a≠fi/\a≠mk/\a≠mr/\a≠rd
 n2:e≠fi/\e≠mk/\e≠mr/\e≠rd
theorem Own.y2(W:Own H fi mk mr rd a e D S_):Own (Y2 (H++G) a e D' S') fi mk mr rd a e D' S':=
 ⟨W.ne,Y2.Ac W.ne (Qg.mp<|bc W.Aa).1,Y2.Ag (Qg.mp<|bc W.Ab).1,W.n1,W.n2⟩
theorem SG.y2(F:SG H ro rl s fi mk mr pk nw tk st rp rd kd b lk q d1 d2 M M2 td)(W:Own H fi mk mr rd a e D S_):SG (Y2 (H++G) a e D' S') ro rl s fi mk mr pk nw tk st rp rd kd b lk q d1 d2 M M2 td:=by
 haveI d:SG ((H++G).set a D'.o) ro rl s fi mk mr pk nw tk st rp rd kd b lk q d1 d2 M M2 td:=F.Ad.Ak (bc W.Aa) W.n1.1 W.n1.2.2.1 W.n1.2.2.2<|dK W.n1.2.1<|bc F.Ac;exact d.Ak (dK W.ne<|bc W.Ab) W.n2.1 W.n2.2.2.1 W.n2.2.2.2<|dK W.n2.2.1 d.Ac
theorem aaQ:∀p∈jk,aB p (gD d kd i)=some (.E<|ajB d kd i p):=by
 apply ajE<;>rfl
theorem aeu:∀h∈fh,h.1∈jk/\(h.2.1="network"∨h.2.1="transport"∨h.2.1="link"):=by decide+kernel
theorem aaR(d:b.length<=200)(f:lk.length<=200):(iT b lk q base).Aa<=4000:=by
 unfold iT
 split
 ·show 8*b.length<=4000;exact aU<|QJ (Qd 8) d
 split
 ·show 8*b.length<=4000;exact aU<|QJ (Qd 8) d
 ·show 8*lk.length<=4000;exact aU<|QJ (Qd 8) f
theorem aoE(C:CFs vf0 c)(F:SG H ro rl s fi mk mr pk nw tk st rp rd kd b lk q d1 d2 M (kY kd b q M) td)(hM:Mk9 M)(K:b.length<=170)(g:lk.length<=30)
 (y2:l 2=some (.A kd))(L:l 5=some (.B ro))(y6:l 6=some (bU q))(N:l 7=some (.B rl))(A:l 12=some (.B s))(B:l 13=some (.B mk))(E:l 16=some (.A<|l4I q)):
 ∃l' H' a e,(∀{I:bJ (Fl×Lc)},au c (cF.Aa.drop 23) l' H'=I->au c (cF.Aa.drop 18) l H=I)/\l' 12=some (.B s)/\l' 13=some (.B mk)/\l' 17=some (.B H.length)/\l' 21=some (.B<|a - 1)/\l' 22=some (.B a)/\l' 23=some (.B e)/\
  SG H' ro rl s fi mk mr pk nw tk st rp rd kd b lk q d1 d2 M (kY kd b q M) td/\Own H' fi mk mr rd a e ([],some 0) ([],some 0)/\H'[H.length]?=some (.B (gD (jO lk) kd<|l4I q) none)/\H'[a - 1]?=some (.B (kZ b lk q) none)/\H.length≠a/\H.length≠e/\a - 1≠a/\a - 1≠e:=by
 refine bC (aaP (c:=c) y2 N E F.Ag g) λw e1=>?_;haveI s1:=az (j:=17) e1;have p:SG (H++(.B (gD (jO lk) kd<|l4I q) none::w)) ro rl s fi mk mr pk nw tk st rp rd kd b lk q d1 d2 M (kY kd b q M) td:=F.Ad;haveI P:(H++(.B (gD (jO lk) kd<|l4I q) none::w))[H.length]?=some (.B (gD (jO lk) kd<|l4I q) none):=bn (k:=0);haveI Q:H.length<(H++(.B (gD (jO lk) kd<|l4I q) none::w)).length:=by refine af Qi ?_;exact af QG<|Zs<|ZD _
 generalize H++(.B (gD (jO lk) kd<|l4I q) none::w)=H1 at s1 p P Q;haveI s2:aN c (.G [18,19,20]<|.D [.G (.F 44) [.A 5],.E .Mult (.B 8)<|.K "len" [.A 5],.T<|.B 1]) (l.Aa 17<|.B H.length) H1=.ok (.Aa,(((l.Aa 17<|.B H.length).Aa 20<|.A<|-1).Aa 19<|.A (8*b.length:Nat)).Aa 18<|.A<|aQ b) H1:=
  afs (bf<|ae (afu C (i:=5) L p.Af<|aU K)<|ae (acm (i:=5) L p.Af<|aU K)<|ae (jL rfl) aj) rfl rfl
 refine eI (aet (c:=c) (H:=H1) (l:=(((l.Aa 17<|.B H.length).Aa 20<|.A<|-1).Aa 19<|.A (8*b.length:Nat)).Aa 18<|.A<|aQ b) (q:=q) y6 rfl) λf s3 J m=>?_;haveI R:f 7=some (.B rl):=(m 7 nb).trans N;haveI r:f 18=some (.A<|aQ b):=m 18 nb;haveI u:f 19=some (.A (8*b.length:Nat)):=m 19 nb;haveI e4:ak c (.Q ["network","transport","link"] [.D [.A 18,.A 19,.B 0],.D [.A 18,.A 19,.A 20],.D [.G (.F 44) [.A 7],.E .Mult (.B 8)<|.K "len" [.A 7],.B 0]]) f H1=.ok (.B H1.length) (H1++[.B (kZ b lk q) none]):=by
  have U:(H1++[O.B []<|some 0])[rl]?=some (.A<|ay lk):=bc p.Ag;exact nD (vs:=[(iT b lk q "network").v,(iT b lk q "transport").v,(iT b lk q "link").v])<|ae (bf<|ae (aa r)<|ae (aa u)<|ae rfl aj)<|ae (bf<|ae (aa r)<|ae (aa u)<|ae (aa J) aj)<|ae (bf<|ae (afu C (i:=7) R U<|aU g)<|ae (acm (i:=7) R U<|aU g)<|ae rfl aj) aj
 haveI W:=az (j:=21) e4;haveI Y:SG (H1++[.B (kZ b lk q) none]) ro rl s fi mk mr pk nw tk st rp rd kd b lk q d1 d2 M (kY kd b q M) td:=p.Ad;haveI Z:(H1++[O.B (kZ b lk q) none])[H.length]?=some (.B (gD (jO lk) kd<|l4I q) none):=bc P;haveI b4:(H1++[O.B (kZ b lk q) none])[H1.length]?=some (.B (kZ b lk q) none):=atL;haveI x:(H1++[O.B (kZ b lk q) none]).length=H1.length+1:=by exact af Qi rfl
 generalize H1++[O.B (kZ b lk q) none]=d at W Y Z b4 x;haveI s5:aN c (.G [22,23]<|.D [.Q [] [],.Q [] []]) (f.Aa 21<|.B H1.length) d=.ok (.Aa,((f.Aa 21<|.B H1.length).Aa 23<|.B<|d.length+1).Aa 22<|.B d.length) (d++[bP,bP]):=by
  haveI x1:ak c (.Q [] []) (f.Aa 21<|.B H1.length) d=.ok (.B d.length) (d++[bP]):=by
   haveI:=fb (c:=c) (l:=f.Aa 21<|.B H1.length) (H:=d) (L:=[]) (L':=[bP]) (k:=0) rfl rfl
   rwa [QF] at this
  exact afs (bf<|ae x1<|ae (fb (L:=[bP]) (k:=1) rfl rfl) aj) rfl rfl
 have y:∀{i:Nat} {ob:O},H[i]?=some ob->i<H.length:=λh=>(Qg.mp h).1;haveI t1:=y F.Ae;haveI t2:=y F.Ac;haveI t3:=y F.Ah;haveI t4:=y F.Aj;have v:H.length<d.length:=x ▸Nat.lt_succ_of_lt Q;have n:∀{t},t<H.length->d.length≠t:=λt=>ZA<|Nat.lt_trans t v;have z:∀{t},t<H.length->d.length+1≠t:=λt=>ZA<|Nat.lt_succ_of_lt<|Nat.lt_trans t v;refine⟨_,_,d.length,d.length+1,λ{I} h=>ah s1<|ah s2<|ah s3<|ah W<|ah s5 h,(m 12 nb).trans A,(m 13 nb).trans B,m 17 nb,?_,rfl,rfl,Y.Ad,⟨QC<|Nat.lt_succ_self _,bn (k:=0),bn,⟨n t1,n t2,n t3,n t4⟩,⟨z t1,z t2,z t3,z t4⟩⟩,bc Z,?_,QC v,QC<|Nat.lt_succ_of_lt v,QC<|Nat.sub_lt (Qv (QO _) v)<|ZD _,QC<|Nat.lt_succ_of_le<|Nat.sub_le ..⟩
 ·show some (V.B H1.length)=_;exact af x rfl
 ·exact af x<|bc b4
end
end
section
section
variable {vf0:Hp->V->Str->Option V} {c:CF} {l:Lc} {H G:Hp} {ro rl s fi mk mr rd kd d1 d2 k j a e pr br:Nat} {pk tk:V} {nw st rp:Int} {b lk:List UInt8} {q:aD} {M M2:List (Str×V)} {o:O} {td:Option cv} {D S_ D' S':DP}
theorem aoF(C:CFs vf0 c)(F:SG H ro rl s fi mk mr pk nw tk st rp rd kd b lk q d1 d2 M (kY kd b q M) td)(W:Own H fi mk mr rd a e ([],some 0) ([],some 0))(J:Mk9 M)(hb:b.length<=170)(K:lk.length<=30)
 (n:l 12=some (.B s))(r:l 13=some (.B mk))(t:l 17=some (.B pr))(u:l 21=some (.B br))(f:l 22=some (.B a))(g:l 23=some (.B e))
 (L:H[pr]?=some (.B (gD (jO lk) kd<|l4I q) none))(N:H[br]?=some (.B (kZ b lk q) none))(P:pr≠a)(Q:pr≠e)(R:br≠a)(U:br≠e):
 ∃H',(∀{v:bJ (Fl×Lc)},au c (cF.Aa.drop 26) l H'=v->au c (cF.Aa.drop 23) l H=v)/\SG H' ro rl s fi mk mr pk nw tk st rp rd kd b lk q d1 d2 M (kY kd b q M) td/\Own H' fi mk mr rd a e (vp kd b lk q M td<|.A st,some 99) sU:=by
 haveI w:∀h∈fh,∃Y d,ajk (gD (jO lk) kd<|l4I q) (kZ b lk q) (vn (jO lk) kd b lk q) h.1 h.2.1 Y d:=by
  intro h Z;refine aP (aeu h Z) λh1 h2=>?_;refine fK (ajB (jO lk) kd (l4I q) h.1) (iT b lk q h.2.1) ⟨aaQ _ h1,?_,aaR (Qa ‹_› lb)<|Qa ‹_› lb,λ_ _ _=>rfl⟩;rcases h2 with e|e|e<;>(refine af e ?_)<;>rfl
 refine bC (C.py H a e pr br _ _ none none (vn (jO lk) kd b lk q) W.ne W.Aa W.Ab L N P.symm Q.symm R.symm U.symm w) λx e1=>?_;haveI s1:=jm<|av (c:=c) (g:=51) (l:=l) (vs:=[.B a,.B e,.B pr,.B br]) (ae (aa f)<|ae (aa g)<|ae (aa t)<|ae (aa u) aj) e1;have p:=F.y2 (G:=x) (D':=dc.foldl (fM<|vn (jO lk) kd b lk q) ([],some 0)) (S':=dc.foldl (fM oo) ([],some 0)) W;have i:=W.y2 (G:=x) (D':=dc.foldl (fM<|vn (jO lk) kd b lk q) ([],some 0)) (S':=dc.foldl (fM oo) ([],some 0));generalize Y2 (H++x) a e _ _=H1 at s1 p i;haveI A:(dc.foldl (fM<|vn (jO lk) kd b lk q) ([],some 0)).1.length<=66:=pw dc ([],some 0);haveI B:(dc.foldl (fM oo) ([],some 0)).1.length<=66:=pw dc ([],some 0);refine bC (C.Aa H1 a e (.B s) tk td (.A st) _ _ i.ne i.Aa i.Ab (aU A) (aU B) (p.at rfl) p.ts) λy e2=>?_;haveI E:=jm<|av (c:=c) (g:=53) (l:=l) (vs:=[.B a,.B e,.B s,tk]) (ae (aa f)<|ae (aa g)<|ae (aa n)<|ae (bB (aa n)<|p.at (a:="talk") rfl) aj) e2;have z:=p.y2 (G:=y) (D':=cK (dc.foldl (fM<|vn (jO lk) kd b lk q) ([],some 0))<|kvT td<|.A st) (S':=cK (dc.foldl (fM oo) ([],some 0)) re) i;have m:=i.y2 (G:=y) (D':=cK (dc.foldl (fM<|vn (jO lk) kd b lk q) ([],some 0))<|kvT td<|.A st) (S':=cK (dc.foldl (fM oo) ([],some 0)) re);generalize Y2 (H1++y) a e _ _=H2 at E z m;have k1:(kvT td<|.A st).length<=30:=by cases td<;>exact Qy rfl
 haveI k2:re.length<=30:=Qy rfl;haveI l3:=gT (kvs:=kvT td<|.A st) (D:=dc.foldl (fM<|vn (jO lk) kd b lk q) ([],some 0));have l4:=gT (kvs:=re) (D:=dc.foldl (fM oo) ([],some 0));refine bC (C.Ab H2 a e mk (kY kd b q M) none _ _ (mvF kd b q M) m.ne m.Aa m.Ab z.Ac (aU<|Qa l3<|Qf A k1) (aU<|Qa l4<|Qf B k2) (aer J) W.n1.2.1 W.n2.2.1) λG3 I=>?_;rw [ajx,afn] at I;haveI s3:=jm<|av (c:=c) (g:=54) (l:=l) (vs:=[.B a,.B e,.B mk]) (ae (aa f)<|ae (aa g)<|ae (aa r) aj) I;exact cz _ (λ{v} h=>ah s1<|ah E<|ah s3 h) (z.y2 m) m.y2
end
end
section
theorem ahc(l:List Str):cC (toPy (n+1) H) (l.map V.D)=some (l.map PyData.str):=by
 induction l with
 |nil=>rfl
 |cons x l r=>show(some<|PyData.str x).bind (λy=>(cC (toPy (n+1) H)<|l.map V.D).map (y::·))=_;exact af r rfl
theorem pH:SeqAt.shaped (.list<|bR.map PyData.str)=true:=by decide+kernel
theorem uo(h:H[i]?=some (.B es ep))(d:es.map Prod.fst=mU∨es.map Prod.fst=jJ):jb "sorted" [.B i] H=.ok (.B H.length) (H++[.A<|bR.map .D]):=by
 show(bX i H).Aa _=_;exact af (bO h)<|bT d
theorem yR(h:H[i]?=some (.A<|bR.map V.D)):toPy 8 H (.B i)=some (.list<|bR.map PyData.str):=by
 show(Option.elim H[i]? none λd=>oC none d (list:=λl=>(cC (toPy 7 H) l).map PyData.list))=_;refine af h ?_;show(cC (toPy 7 H)<|bR.map V.D).map PyData.list=_;exact af (ahc (n:=6) ..) rfl
section
variable {vf0:Hp->V->Str->Option V} {c:CF} {l:Lc} {H G:Hp} {ro rl s fi mk mr rd kd d1 d2 k j a e pr br:Nat} {pk tk:V} {nw st rp:Int} {b lk:List UInt8} {q:aD} {M M2:List (Str×V)} {o:O} {td:Option cv} {D S_ D' S':DP}
theorem aaS(C:CFs vf0 c)(F:SG H ro rl s fi mk mr pk nw tk st rp rd kd b lk q d1 d2 M M2 td)(d:aB n aG=none)(f:n.length<=1000):∃G,c 55 [.B s,.D n] H=.ok (.D<|Str.ofString "unknown field "++n) (H++G):=by
 refine C.rf H (.B s) n _<|agu C.vo ?_;refine(aw<|F.at rfl).trans<|(aw<|(nX F.Ae).trans<|Qt (λx=>some<|x.getD V.C) d).trans ?_;exact(Qh rfl).trans<|Qh f
theorem aev(F:SG H ro rl s fi mk mr pk nw tk st rp rd kd b lk q d1 d2 M M2 td)(f:kd<65536)(z:b.length<=170)(m:lk.length<=30)(p:eA kd b=some q)(w:H[r]?=some (.B bI none)):
 qx (H.set s<|.C "Scene"<|bq s pk (.A nw) tk (.A st) (.A rp) (.B fi)<|.B r) (.B s) pk (.B fi) (.B r) (.B mr) tk d1 d2 kd b lk q M td (.A st):=by
 have sc:∀{x:Str} {u:V},aB x (bq s pk (.A nw) tk (.A st) (.A rp) (.B fi)<|.B r)=some u->aY (H.set s<|.C "Scene"<|bq s pk (.A nw) tk (.A st) (.A rp) (.B fi)<|.B r) (.B s) x=some u:=λh=>(aw<|yP F.Aa).trans h;haveI n:∀{i:Nat} {es:List (Str×V)} {ep:Option Nat},H[i]?=some (.B es ep)->(H.set s<|.C "Scene"<|bq s pk (.A nw) tk (.A st) (.A rp) (.B fi)<|.B r)[i]?=some (.B es ep):=λe=>dK (jI F.Aa e<|λx=>by injection x) e;exact {
  Ab:=sc rfl
  is:=F.Ab.Aj F.Aa
  Af:=cP F.Aa rfl F.Ai
  Ak:=λk=>nX (n F.Ah)
  Ac:=sc rfl
  Al:=λk=>nX (n F.Ae)
  Ag:=sc rfl
  Am:=λk=>nX (n w)
  Ah:=sc rfl
  Ai:=sc rfl
  ts:=by
   have t:=F.ts
   cases td with
   |none=>exact t
   |some d=>
    haveI g:∀{v:V},aY H (.B s) "is_reply"=some v->v=.A rp:=λh=>Qb<|h.symm.trans<|F.at rfl;haveI y:∀{v:V},aY H (.B s) "now"=some v->v=.A nw:=λh=>Qb<|h.symm.trans<|F.at rfl;exact⟨t.1,⟨cP F.Aa rfl t.2.st,(sc rfl).trans<|Qt some (g t.2.ir).symm,cP F.Aa rfl t.2.ma,cP F.Aa rfl t.2.zn,cP F.Aa rfl t.2.un,(sc rfl).trans<|Qt some (y t.2.nw).symm,cP F.Aa rfl t.2.og,cP F.Aa rfl t.2.rp⟩⟩
  Aj:=f
  Ad:=(Qa ‹_› lb)
  Ae:=(Qa ‹_› lb)
  Aa:=p}
theorem aoG(h:H[a]?=some (.B es<|some n)):lf (.B a) H k H=.ok (es[k]?.map λp=>.D p.1) H:=by
 show(Option.elim H[a]? (λ_=>AM.Ac) λd=>oC (λ_=>AM.Ac) d (dict:=uB a) (list:=λ_=>lg a) (barr:=λ_=>uA a)) k H=_;refine af h ?_;show(bX a H).Aa _=_;exact af (bO h)<|bT (p:=es.length=es.length/\some n=some n/\(some n).isSome=true) ⟨rfl,rfl,rfl⟩
noncomputable abbrev aew:List S:=[.C (.P false [.I .NotEq (.G (.F 33) [.A 12,.D [.C "field",.A 14]])<|.H (.A 22)<|.A 14,.I .NotEq (.G (.F 15) [.L (.A 12) "fields",.D [.C "field",.A 14]])<|.H (.A 23)<|.A 14]) [.B<|.S false] []]
theorem amM(C:CFs vf0 c)(W:qx H (.B s) pk (.B fi) (.B rd) (.B mr) tk d1 d2 kd b lk q M td (.A st))(A:Mk9 M)(B:H[fi]?=some (.B aG none))(u:H[a]?=some (.B (vp kd b lk q M td<|.A st)<|some 99))(E:H[e]?=some sU.o)
 (g:l 12=some (.B s))(d:l 22=some (.B a))(h:l 23=some (.B e)):∃l',aN c (.E (.A 14) (.A 22) aew) l H=.ok (.Aa,l') H:=by
 have w:(vp kd b lk q M td<|.A st).map Prod.fst=jJ:=yF;haveI F:((vp kd b lk q M td<|.A st).map Prod.fst).Nodup:=w ▸acg;haveI i:(vp kd b lk q M td<|.A st).length=99:=by
  haveI:=Qt List.length w;rw [QU] at this;exact this
 obtain⟨l',H',I,rfl,_⟩:=il (c:=c) (t:=.A 14) (src:=lf (.B a) H) (step:=au c aew) (item:=λp:Str×V=>V.D p.1) (full:=vp kd b lk q M td<|.A st) (λ_ l' H'=>H'=H/\l' 12=some (.B s)/\l' 22=some (.B a)/\l' 23=some (.B e))
  (λk l' H' r m=>aP m λn _=>by subst n;exact aoG u)
  (λp r l' H' f m=>gF m λn t x y=>by
   subst n;refine aT (amJ C.sz B p f) λN J K=>?_;haveI v:=agw C.vo<|ajF (vf0:=vf0) W p f;haveI L:NI p.2:=ajH (.inr ⟨_,rfl⟩) A.2 p f;haveI z:ak c (.D [.C "field",.A 14]) (l'.Aa 14<|.D p.1) H'=.ok (io p.1) H':=bf<|ae rfl<|ae (aa rfl) aj;exact ⟨_,H',_,H',rfl,ah (aH<|bD (am (av (ae (aa t)<|ae z aj) v) (aJ (aa x) (aa rfl)<|jF u<|aaI F f) L.ne)<|bD (am (av (ae (bB (aa t) W.Ac)<|ae z aj) K) (aJ (aa y) (aa rfl)<|jF E J)<|NI.ne<|.inr ⟨_,rfl⟩) fL) aV,rfl,t,x,y⟩)
  (vp kd b lk q M td<|.A st) [] l H 1001 rfl (by refine af i ?_;decide) ⟨rfl,g,d,h⟩
 exact⟨l',eF (aa d) I⟩
theorem stE(C:CFs vf0 c)(F:SG H ro rl s fi mk mr pk nw tk st rp rd kd b lk q d1 d2 M M2 td)(W:Own H fi mk mr rd a e (vp kd b lk q M td<|.A st,some 99) sU)(P:Mk9 M)(m:kd<65536)(Q:b.length<=170)(p:lk.length<=30)(R:eA kd b=some q)
 (f:l 12=some (.B s))(g:l 22=some (.B a))(r:l 23=some (.B e)):∃l' H',au c (cF.Aa.drop 26) l H=.ok (.Ab<|.E true,l') H':=by
 haveI x1:ak c (.K "sorted" [.L (.A 12) "fields"]) l H=.ok (.B H.length) (H++[.A<|bR.map .D]):=bh (vs:=[.B fi]) (ae (bB (aa f)<|F.at rfl) aj)<|uo F.Ae<|.inl yG;haveI v:ak c (.K "sorted" [.A 22]) l (H++[.A<|bR.map .D])=.ok (.B (H++[O.A<|bR.map .D]).length) ((H++[.A<|bR.map .D])++[.A<|bR.map .D]):=bh (vs:=[.B a]) (ae (aa g) aj)<|uo (bc W.Aa)<|.inr yF;haveI w:((H++[O.A<|bR.map .D])++[O.A<|bR.map .D])[H.length]?=some (.A<|bR.map .D):=bc atL;haveI U:((H++[O.A<|bR.map .D])++[O.A<|bR.map .D])[(H++[O.A<|bR.map .D]).length]?=some (.A<|bR.map .D):=atL;have t:SG ((H++[O.A<|bR.map .D])++[O.A<|bR.map .D]) ro rl s fi mk mr pk nw tk st rp rd kd b lk q d1 d2 M M2 td:=F.Ad.Ad;haveI y:eO .NotEq (.B H.length) (.B (H++[O.A<|bR.map .D]).length) ((H++[O.A<|bR.map .D])++[O.A<|bR.map .D])=.ok (.E false) _:=nT (ud w) (yR w) (yR U) pH;haveI z:((H++[O.A<|bR.map .D])++[O.A<|bR.map .D])[a]?=some (.B (vp kd b lk q M td<|.A st)<|some 99):=bc<|bc W.Aa;haveI A:((H++[O.A<|bR.map .D])++[O.A<|bR.map .D])[e]?=some sU.o:=bc<|bc W.Ab;generalize (H++[O.A<|bR.map .D])++[O.A<|bR.map .D]=H1 at v t y z A;refine bC (aaS C t (n:="ip none") (by kernel_rfl)<|by decide+kernel) λG Y=>?_;haveI s1:aN c (.C (.P false [.I .NotEq (.K "sorted" [.L (.A 12) "fields"])<|.K "sorted" [.A 22],.I .NotEq (.G (.F 55) [.A 12,.C "ip none"])<|.C "unknown field ip none"]) [.B<|.S false] []) l H=.ok (.Aa,l) (H1++G):=
  aH (bD (am x1 v y)<|bD (am (av (ae (aa f)<|ae rfl aj) Y) rfl<|tS (x:=Str.ofString "unknown field "++"ip none") (y:="unknown field ip none") (t:=true) (by decide+kernel) (by decide+kernel)<|by decide+kernel) fL)
 haveI B:SG (H1++G) ro rl s fi mk mr pk nw tk st rp rd kd b lk q d1 d2 M M2 td:=t.Ad;haveI E:=bc (B:=G) z;haveI I:=bc (B:=G) A;generalize H1++G=d at s1 B E I;have h:SG (d++[.B bI none]) ro rl s fi mk mr pk nw tk st rp rd kd b lk q d1 d2 M M2 td:=B.Ad;haveI J:(d++[O.B bI none])[d.length]?=some (.B bI none):=atL;haveI K:=bc (B:=[O.B bI none]) E;haveI L:=bc (B:=[O.B bI none]) I;haveI N:ak c (.G (.F 40) []) l d=.ok (.B d.length) (d++[.B bI none]):=av aj<|xM C.rd;generalize d++[O.B bI none]=u at h J K L N;haveI Z:aN c (.A (.C (.A 12) "readers")<|.G (.F 40) []) l d=.ok (.Aa,l) (u.set s<|.C "Scene"<|bq s pk (.A nw) tk (.A st) (.A rp) (.B fi)<|.B d.length):=
  cm N (lJ (aa f) h.Aa rfl (Qy rfl) rfl)
 haveI W3:=aev h m Q p R J;haveI n:∀{i:Nat} {es:List (Str×V)} {ep:Option Nat},u[i]?=some (.B es ep)->(u.set s<|.C "Scene"<|bq s pk (.A nw) tk (.A st) (.A rp) (.B fi)<|.B d.length)[i]?=some (.B es ep):=λe=>dK (jI h.Aa e<|λx=>by injection x) e;exact bC (amM C W3 P (n h.Ae) (n K) (n L) f g r) λl' s3=>fK _ _<|ah s1<|ah Z<|ah s3<|aI rfl
end
end
theorem ajO(C:CFs vf0 c):∀ns:List Int,ns.length<=63->∃l' H',au c cF.Aa.tail (Lc.Aa (λ_=>none) 0<|.B 0) [.A<|ns.map .A]=.ok (.Ab<|.E true,l') H':=by
 intro ns p;refine kg (stA C p) λlA HA kd f d=>kg d λro r b q d=>aP d λt A=>?_;refine kg (stB C A<|by decide) λlB HB lk pk d=>kg d λd1 d2 mr rl d=>gx d λu g B=>?_;refine kg (aoA C g B<|by decide) λlC HC s fi d=>ze d λmk M nw d=>gF d λv L F d=>gF d λl w x n3=>?_;refine dN (aoB C F L) λy HD z h D=>?_;refine kg (aoC C D h<|by decide) λHE tk td st d=>bC d λrp d=>gx d λE H T=>?_;refine aT (aoD (c:=c) H T h l g.Ab (QC w) (QC x)<|QC ‹_›) λHF I G=>?_;refine kg (aoE C G l g.Ab g.Af (l:=y.Aa 16<|.A<|l4I q) h.l2 h.l5 h.l6 h.l7 h.Aa h.Ab rfl) λlG HG a e d=>gF d λJ i m d=>gF d λn o j d=>gF d λk K W d=>gF d λN p2 P d=>gx d λQ R U=>?_;refine eI (aoF C K W l g.Ab g.Af i m n o j k N p2 P Q R U) λHH Y Z W2=>?_;refine ip (stE C Z W2 l g.Ac.1 g.Ab g.Af g.Aa i j k) λl' H' eE=>?_;exact fK l' H'<|t<|u<|v<|z<|E<|I<|J<|Y eE
theorem bV(L:eK n c)(h:Ct c i a):eK (n+2) (c.Aa i<|cU a):=L.Aa λargs H w b=>by
 cases e:a args H with
 |none=>exact af (show cU a args H=.Ab from by show(a args H).getD .Ab=_;rw [e];rfl)<|.inr trivial
 |some r=>exact af (show cU a args H=r from by show(a args H).getD .Ab=_;rw [e];rfl)<|h args H r w b e
theorem bi(L:eK n c):eK (n+2) (c.Aa i<|aM c i):=L.Aa λ_ _ _ _=>tN
theorem todI(h:c' 41=c 41)(N:dI c):dI c':=by unfold dI at N ⊢;exact af h N
theorem tomc(h:c' 42=c 42)(N:mc c):mc c':=by unfold mc at N ⊢;exact af h N
theorem tolz(h:c' 44=c 44)(N:lz c):lz c':=by unfold lz at N ⊢;exact af h N
theorem tonH(h:c' 46=c 46)(N:nH c):nH c':=by unfold nH at N ⊢;exact af h N
theorem toqR(h:c' 45=c 45)(N:qR c):qR c':=by unfold qR at N ⊢;exact af h N
theorem tonI(h:c' 47=c 47)(N:nI c):nI c':=by unfold nI at N ⊢;exact af h N
theorem toyd(h:c' 48=c 48)(N:yd c):yd c':=by unfold yd at N ⊢;exact af h N
theorem toqT(h:c' 49=c 49)(N:qT c):qT c':=by unfold qT at N ⊢;exact af h N
theorem tonJ(h:c' 50=c 50)(N:nJ c):nJ c':=by unfold nJ at N ⊢;exact af h N
theorem toqU(h:c' 64=c 64)(N:qU c):qU c':=by unfold qU at N ⊢;exact af h N
theorem tonK(h:c' 63=c 63)(N:nK c):nK c':=by unfold nK at N ⊢;exact af h N
theorem toqV(h:c' 52=c 52)(N:qV c):qV c':=by unfold qV at N ⊢;exact af h N
theorem tokN(h:c' 58=c 58)(N:kN c):kN c':=by unfold kN at N ⊢;exact af h N
theorem tonN(h:c' 57=c 57)(N:nN c):nN c':=by unfold nN at N ⊢;exact af h N
theorem tonO(h:c' 43=c 43)(N:nO c):nO c':=by unfold nO at N ⊢;exact af h N
theorem toyn(h:c' 51=c 51)(N:yn c):yn c':=by unfold yn at N ⊢;exact af h N
theorem tokQ(h:c' 53=c 53)(N:kQ c):kQ c':=by unfold kQ at N ⊢;exact af h N
theorem tokR(h:c' 54=c 54)(N:kR c):kR c':=by unfold kR at N ⊢;exact af h N
theorem tonS(h:c' 56=c 56)(N:nS c):nS c':=by unfold nS at N ⊢;exact af h N
theorem tokU(h:c' 59=c 59)(N:kU c):kU c':=by unfold kU at N ⊢;exact af h N
theorem torh(h:c' 12=c 12)(N:rh c):rh c':=by unfold rh at N ⊢;exact af h N
theorem tonU(h:c' 13=c 13)(N:nU c):nU c':=by unfold nU at N ⊢;exact af h N
theorem tori(h:c' 14=c 14)(N:ri c):ri c':=by unfold ri at N ⊢;exact af h N
theorem tosS(h:c' 15=c 15)(N:sS c):sS c':=by unfold sS at N ⊢;exact af h N
theorem toPG(h:c' 0=c 0)(N:PG c):PG c':=by unfold PG at N ⊢;exact af h N
theorem toafl(h:c' 10=c 10)(N:afl c):afl c':=by unfold afl at N ⊢;exact af h N
theorem toFT(h:c' i=c i)(N:FT c i L):FT c' i L:=by unfold FT at N ⊢;exact af h N
theorem toRef(h:c' 33=c 33)(a:d' 55=d 55)(N:yr c d):yr c' d':=by unfold yr at N ⊢;exact af h<|af a N
noncomputable abbrev pl0:Hp->V->V->Option V:=λ_ _ _=>none
abbrev pl1:Hp->V->V->Option V:=rpv<|nmv<|vv pl0
abbrev pl2:Hp->V->V->Option V:=plX<|vv pl0
def kf0:CF:=λ_ _=>AM.Ac
theorem anx:eK 0 kf0:=.Ab
def kf1:CF:=kf0.Aa 16<|cU bH
theorem anz:eK 2 kf1:=bV anx<|aaz (c:=kf0)
def kf2:CF:=kf1.Aa 17<|cU jU
theorem anA:eK 4 kf2:=bV anz<|agM (c:=kf1) rfl
def kf3:CF:=kf2.Aa 18<|cU<|pX iR
theorem anB:eK 6 kf3:=bV anA<|aef (c:=kf2) rfl
def kf4:CF:=kf3.Aa 19<|cU nY
theorem anC:eK 8 kf4:=bV anB<|ajJ (c:=kf3)
def kf5:CF:=kf4.Aa 20<|cU iU
theorem anD:eK 10 kf5:=bV anC<|ahb (c:=kf4) rfl
def kf6:CF:=kf5.Aa 21<|cU gu
theorem anE:eK 12 kf6:=bV anD<|aeo (c:=kf5) rfl
def kf7:CF:=kf6.Aa 22<|cU gq
theorem anF:eK 14 kf7:=bV anE<|aex (c:=kf6) rfl rfl
def kf8:CF:=kf7.Aa 24<|cU jl
theorem anG:eK 16 kf8:=bV anF<|ahd (c:=kf7)
def kf9:CF:=kf8.Aa 25<|cU jS
theorem anH:eK 18 kf9:=bV anG<|ahe (c:=kf8) rfl rfl
def ahu:CF:=kf9.Aa 62<|cU gz
theorem ajP:eK 20 ahu:=bV anH<|aao (c:=kf9) rfl
def ahv:CF:=ahu.Aa 26<|cU cG
theorem ajQ:eK 22 ahv:=bV ajP<|sj (c:=ahu) rfl rfl
def ahw:CF:=ahv.Aa 61<|cU gg
theorem ajR:eK 24 ahw:=bV ajQ<|adq (c:=ahv)
def ahx:CF:=ahw.Aa 23<|cU gf
theorem ajS:eK 26 ahx:=bV ajR<|adr (c:=ahw) rfl rfl
def ahy:CF:=ahx.Aa 27<|cU gi
theorem ajT:eK 28 ahy:=bV ajS<|adu (c:=ahx) rfl rfl
def ahz:CF:=ahy.Aa 28<|cU kE
theorem ajU:eK 30 ahz:=bV ajT<|aiP (c:=ahy)
def ahA:CF:=ahz.Aa 34<|cU pe
theorem ajV:eK 32 ahA:=bV ajU<|amg (c:=ahz) rfl
def ahB:CF:=ahA.Aa 35<|cU iL
theorem ajW:eK 34 ahB:=bV ajV<|agq (c:=ahA)
def ahC:CF:=ahB.Aa 36<|cU kF
theorem ajX:eK 36 ahC:=bV ajW<|aiS (c:=ahB) rfl
def ahD:CF:=ahC.Aa 38<|cU<|iM rmv
theorem ajY:eK 38 ahD:=bV ajX<|amj (c:=ahC) rfl
def ahE:CF:=ahD.Aa 39<|cU<|iM rcv
theorem ajZ:eK 40 ahE:=bV ajY<|amk (c:=ahD) rfl
def ahF:CF:=ahE.Aa 40<|cU eB
theorem aka:eK 42 ahF:=bV ajZ<|xN (c:=ahE)
def ahG:CF:=ahF.Aa 11<|cU gj
theorem akb:eK 44 ahG:=bV aka<|adA (c:=ahF)
def ahH:CF:=ahG.Aa 29<|cU pg
theorem akc:eK 46 ahH:=bV akb<|amn (c:=ahG)
def ahI:CF:=ahH.Aa 30<|cU pi
theorem akd:eK 48 ahI:=bV akc<|amp (c:=ahH) rfl rfl
def ahJ:CF:=ahI.Aa 32<|cU<|su pl0
theorem ake:eK 50 ahJ:=bV akd<|agt (c:=ahI) rfl rfl (λ_ _ _ _ h=>nomatch h)
def ahK:CF:=ahJ.Aa 33<|cU<|ol pl0
theorem akf:eK 52 ahK:=bV ake<|agv (c:=ahJ) rfl
def ahL:CF:=ahK.Aa 31<|cU<|uZ<|vv pl0
theorem akg:eK 54 ahL:=bV akf<|aiU (c:=ahK) rfl<|λ_ _ _ _ h=>agw (pl:=pl0) rfl h
def ahM:CF:=ahL.Aa 37<|cU<|iM pl1
theorem akh:eK 56 ahM:=bV akg<|aiW (c:=ahL) rfl rfl
def ahN:CF:=ahM.Aa 32<|cU<|su pl1
theorem aki:eK 58 ahN:=bV akh<|agt (c:=ahM) rfl rfl<|λ_ _ _ _ h=>xL (P:=pl1) rfl h
def ahO:CF:=ahN.Aa 33<|cU<|ol pl1
theorem akj:eK 60 ahO:=bV aki<|agv (c:=ahN) rfl
def ahP:CF:=ahO.Aa 31<|cU<|uZ<|vv pl1
theorem akk:eK 62 ahP:=bV akj<|aiU (c:=ahO) rfl<|λ_ _ _ _ h=>agw (pl:=pl1) rfl h
def ahQ:CF:=ahP.Aa 37<|cU<|iM pl2
theorem akl:eK 64 ahQ:=bV akk<|aiW (c:=ahP) rfl rfl
def ahR:CF:=ahQ.Aa 32<|cU<|su pl2
theorem akm:eK 66 ahR:=bV akl<|agt (c:=ahQ) rfl rfl<|λ_ _ _ _ h=>xL (P:=pl2) rfl h
def zj:CF:=ahR.Aa 33<|cU<|ol pl2
theorem akn:eK 68 zj:=bV akm<|agv (c:=ahR) rfl
def vq:CF:=zj.Aa 41<|aM zj 41
theorem ako:eK 70 vq:=bi akn
theorem cq:dI (λx=>aM zj x):=agB (c:=zj)
def zk:CF:=vq.Aa 42<|aM vq 42
theorem akp:eK 72 zk:=bi ako
theorem iV:mc (λx=>aM vq x):=aav (c:=vq)<|todI (c':=vq) rfl cq
def zl:CF:=zk.Aa 44<|aM zk 44
theorem akq:eK 74 zl:=bi akp
theorem mQ:lz (λx=>aM zk x):=adE (c:=zk)
def tb:CF:=zl.Aa 46<|aM zl 46
theorem akr:eK 76 tb:=bi akq
theorem up:nH (λx=>aM zl x):=adF (c:=zl)
def vr:CF:=tb.Aa 45<|aM tb 45
theorem aks:eK 78 vr:=bi akr
theorem yS:qR (λx=>aM tb x):=agC (c:=tb) (todI (c':=tb) rfl cq)<|tomc (c':=tb) rfl iV
def qk:CF:=vr.Aa 47<|aM vr 47
theorem akt:eK 80 qk:=bi aks
theorem yT:nI (λx=>aM vr x):=agD (c:=vr)<|todI (c':=vr) rfl cq
def mR:CF:=qk.Aa 48<|aM qk 48
theorem aku:eK 82 mR:=bi akt
theorem acn:yd (λx=>aM qk x):=ajd (c:=qk) (todI (c':=qk) rfl cq) (tomc (c':=qk) rfl iV)<|tonI (c':=qk) rfl yT
def ql:CF:=mR.Aa 49<|aM mR 49
theorem akv:eK 84 ql:=bi aku
theorem yU:qT (λx=>aM mR x):=agH (c:=mR) (todI (c':=mR) rfl cq) (tomc (c':=mR) rfl iV) (toqR (c':=mR) rfl yS) (tonH (c':=mR) rfl up)<|toyd (c':=mR) rfl acn
def zm:CF:=ql.Aa 50<|aM ql 50
theorem akw:eK 86 zm:=bi akv
theorem uq:nJ (λx=>aM ql x):=adM (c:=ql) (todI (c':=ql) rfl cq) (tomc (c':=ql) rfl iV)<|tolz (c':=ql) rfl mQ
def zp:CF:=zm.Aa 64<|aM zm 64
theorem akx:eK 88 zp:=bi akw
theorem yV:qU (λx=>aM zm x):=agI (c:=zm)
def vt:CF:=zp.Aa 63<|aM zp 63
theorem aky:eK 90 vt:=bi akx
theorem ur:nK (λx=>aM zp x):=adN (c:=zp)
def qp:CF:=vt.Aa 52<|aM vt 52
theorem akz:eK 92 qp:=bi aky
theorem yW:qV (λx=>aM vt x):=agJ (c:=vt)<|todI (c':=vt) rfl cq
def vu:CF:=qp.Aa 58<|aM qp 58
theorem akA:eK 94 vu:=bi akz
theorem rA:kN (λx=>aM qp x):=yh (c:=qp) (todI (c':=qp) rfl cq) (toqV (c':=qp) rfl yW)<|toqU (c':=qp) rfl yV
def zq:CF:=vu.Aa 57<|aM vu 57
theorem akB:eK 96 zq:=bi akA
theorem ut:nN (λx=>aM vu x):=adS (c:=vu)<|todI (c':=vu) rfl cq
def vw:CF:=zq.Aa 43<|aM zq 43
theorem akC:eK 98 vw:=bi akB
theorem uu:nO (λx=>aM zq x):=adT (c:=zq)
def zr:CF:=vw.Aa 51<|aM vw 51
theorem akD:eK 100 zr:=bi akC
theorem aco:yn (λx=>aM vw x):=ajl (c:=vw)<|tonO (c':=vw) rfl uu
def zs:CF:=zr.Aa 53<|aM zr 53
theorem akE:eK 102 zs:=bi akD
theorem rB:kQ (λx=>aM zr x):=aaE (c:=zr)
def uv:CF:=zs.Aa 54<|aM zs 54
theorem akF:eK 104 uv:=bi akE
theorem rC:kR (λx=>aM zs x):=aaF (c:=zs)
def zt:CF:=uv.Aa 55<|aM uv 55
theorem akG:eK 106 zt:=bi akF
theorem acp:yr uv (λx=>aM uv x):=ajp (c:=uv)
def zu:CF:=zt.Aa 56<|aM zt 56
theorem akH:eK 108 zu:=bi akG
theorem uw:nS (λx=>aM zt x):=adW (c:=zt) rfl
def zv:CF:=zu.Aa 59<|aM zu 59
theorem akI:eK 110 zv:=bi akH
theorem rD:kU (λx=>aM zu x):=yA (c:=zu) rfl rfl
def zw:CF:=zv.Aa 12<|aM zv 12
theorem akJ:eK 112 zw:=bi akI
theorem yX:rh (λx=>aM zv x):=agN (c:=zv)
def tc:CF:=zw.Aa 13<|aM zw 13
theorem akK:eK 114 tc:=bi akJ
theorem ux:nU (λx=>aM zw x):=aea (c:=zw)
def vx:CF:=tc.Aa 14<|aM tc 14
theorem akL:eK 116 vx:=bi akK
theorem yY:ri (λx=>aM tc x):=agO (c:=tc) (torh (c':=tc) rfl yX)<|tonU (c':=tc) rfl ux
def zx:CF:=vx.Aa 15<|aM vx 15
theorem akM:eK 118 zx:=bi akL
theorem acq:sS (λx=>aM vx x):=ajs (c:=vx)<|tori (c':=vx) rfl yY
def vy:CF:=zx.Aa 0<|aM zx 0
theorem akN:eK 120 vy:=bi akM
theorem rE:PG (λx=>aM zx x):=amB (c:=zx)
def vz:CF:=vy.Aa 1<|aM vy 1
theorem akO:eK 122 vz:=bi akN
theorem akP:FT (λx=>aM vy x) 1 jN:=ft1 (c:=vy)<|toPG (c':=vy) rfl rE
def vA:CF:=vz.Aa 2<|aM vz 2
theorem akQ:eK 124 vA:=bi akO
theorem akR:FT (λx=>aM vz x) 2 kV:=ft2 (c:=vz)<|toPG (c':=vz) rfl rE
def vB:CF:=vA.Aa 3<|aM vA 3
theorem akS:eK 126 vB:=bi akQ
theorem akT:FT (λx=>aM vA x) 3 mh:=ft3 (c:=vA)<|toPG (c':=vA) rfl rE
def vD:CF:=vB.Aa 4<|aM vB 4
theorem akU:eK 128 vD:=bi akS
theorem akV:FT (λx=>aM vB x) 4 nW:=ft4 (c:=vB)<|toPG (c':=vB) rfl rE
def vE:CF:=vD.Aa 5<|aM vD 5
theorem akW:eK 130 vE:=bi akU
theorem akX:FT (λx=>aM vD x) 5 pE:=ft5 (c:=vD)<|toPG (c':=vD) rfl rE
def vF:CF:=vE.Aa 6<|aM vE 6
theorem akY:eK 132 vF:=bi akW
theorem akZ:FT (λx=>aM vE x) 6 rj:=ft6 (c:=vE)<|toPG (c':=vE) rfl rE
def zy:CF:=vF.Aa 7<|aM vF 7
theorem ala:eK 134 zy:=bi akY
theorem alb:FT (λx=>aM vF x) 7 ug:=ft7 (c:=vF)<|toPG (c':=vF) rfl rE
def zz:CF:=zy.Aa 8<|aM zy 8
theorem alc:eK 136 zz:=bi ala
theorem ald:FT (λx=>aM zy x) 8 rm:=ft8 (c:=zy)
def iY:CF:=zz.Aa 9<|aM zz 9
theorem ale:eK 138 iY:=bi alc
theorem alf:FT (λx=>aM zz x) 9 ui:=ft9 (c:=zz)
def eL:CF:=iY.Aa 10<|aM iY 10
theorem alg:eK 140 eL:=bi ale
theorem afw:afl (λx=>aM iY x):=amC (c:=iY) (toFT (c':=iY) rfl akP) (toFT (c':=iY) rfl akR) (toFT (c':=iY) rfl akT) (toFT (c':=iY) rfl akV) (toFT (c':=iY) rfl akX) (toFT (c':=iY) rfl akZ) (toFT (c':=iY) rfl alb) (toFT (c':=iY) rfl ald)<|toFT (c':=iY) rfl alf
theorem aoH:eL 33=cU (ol pl2):=rfl
theorem aoI:uv 33=cU (ol pl2):=rfl
theorem cfs:CFs (vv pl0) eL where
 n:=todI (c':=eL) rfl cq
 pk:=toqT (c':=eL) rfl yU
 fr:=tonJ (c':=eL) rfl uq
 sh:=tonS (c':=eL) rfl uw
 tl:=tokU (c':=eL) rfl rD
 sc:=tonK (c':=eL) rfl ur
 al:=toafl (c':=eL) rfl afw
 mr:=tonN (c':=eL) rfl ut
 tk:=tokN (c':=eL) rfl rA
 wh:=tolz (c':=eL) rfl mQ
 py:=toyn (c':=eL) rfl aco
 Aa:=tokQ (c':=eL) rfl rB
 Ab:=tokR (c':=eL) rfl rC
 sz:=tosS (c':=eL) rfl acq
 po:=rfl
 et:=rfl
 fp:=rfl
 rd:=rfl
 vo:=rfl
 rf:=toRef (c':=eL) (d':=eL) (aoH.trans aoI.symm) rfl acp
theorem plain:∀ns:List Int,ns.length<=63->∃l' H',au eL cF.Aa.tail (Lc.Aa (λ_=>none) 0<|.B 0) [.A<|ns.map .A]=.ok (.Ab<|.E true,l') H':=ajO cfs
theorem layE:eK 140 eL:=alg
end Mine
end
section
open PySem PySem.W PyProof.Rows
set_option Elab.async true
set_option tactic.hygienic true
set_option maxRecDepth 100000
set_option maxHeartbeats 8000000
namespace Mine
namespace top
def tw17555251805378815213:=Nat
def tw1400011881503588481:=Nat
def tw11334415319851112604:=Nat
def tw3261557481417251176:=Nat
def tw8523463495250067690:=Nat
def tw12718909917080609646:=Nat
def tw1736530178072539846:=Nat
def tw4547018644641229820:=Nat
def tw2218668502564051296:=Nat
def tw12958664272152378060:=Nat
def tw6042063481754889096:=Nat
def tw18245740138792012028:=Nat
def tw8143265674769528471:=Nat
def tw5125364977616790746:=Nat
def tw1617357707322924660:=Nat
def tw4713442408853163898:=Nat
def tw18008055252877512497:=Nat
def tw13264354339760550358:=Nat
def tw16058212318047004132:=Nat
def tw8159302507568227503:=Nat
def tw1245559373397905713:=Nat
def tw2878843996050045342:=Nat
def tw283044589724301:=Nat
def tw10801874191123338550:=Nat
def tw1492452104121835379:=Nat
def tw10006222313960134694:=Nat
def tw1108800333578037850:=Nat
def tw9953747333497923681:=Nat
def tw8311017846404947139:=Nat
def tw6438537300738474071:=Nat
def tw9913501989792142831:=Nat
def tw7204493036743257322:=Nat
def tw9851269098105209369:=Nat
def tw2907113945770861938:=Nat
def tw9800703332001039478:=Nat
def tw995497684801637723:=Nat
def tw14611434983143301774:=Nat
def tw15240379268576122478:=Nat
def tw7830913209206220567:=Nat
def tw9361663168868926718:=Nat
def tw10774637447528242797:=Nat
def tw11443710868159068359:=Nat
def tw12342655685612074800:=Nat
def tw3195522803047326042:=Nat
def tw9382581127745807760:=Nat
def tw8694864300669457046:=Nat
def tw342308947776675178:=Nat
def tw9195894827357321740:=Nat
def tw67957952371615615:=Nat
def tw13889484949932952446:=Nat
def tw17795014544551873601:=Nat
def tw7313339093194340965:=Nat
def tw17428532607074087071:=Nat
def tw390997316461189296:=Nat
def tw2782073688633401757:=Nat
def tw13001836021917841797:=Nat
def tw10008474027749305400:=Nat
def tw14789260269991461300:=Nat
def tw14697636140705633519:=Nat
def tw7652560490529028683:=Nat
def tw16352630495959832749:=Nat
def tw10187264123177260123:=Nat
def tw3730354652608582461:=Nat
def tw10194810499950245846:=Nat
def tw6746510453823603384:=Nat
def tw9259421805112917234:=Nat
def tw788273225186049534:=Nat
def tw11922380849998532372:=Nat
def tw5507162329139097715:=Nat
def tw8560541052185303311:=Nat
def tw1585457916280141200:=Nat
def tw17103177528636943170:=Nat
def tw8363718466572441477:=Nat
def tw12540527436937284434:=Nat
def tw6292954644110606532:=Nat
def tw11542710104232473196:=Nat
def tw17886615442053742456:=Nat
def tw16204670001084760307:=Nat
def tw2732273902793177162:=Nat
def tw11769345161549703396:=Nat
def tw3195968871104189447:=Nat
def tw6812286434817487243:=Nat
def tw12256363837256957063:=Nat
def tw2731995056826638727:=Nat
def tw16580785732701462914:=Nat
def tw13090165191389475591:=Nat
def tw17323899518341599180:=Nat
def tw6431110157172167083:=Nat
def tw3484022092364678248:=Nat
def tw13326734554550294991:=Nat
def tw1291508964198565346:=Nat
def tw575894324575664597:=Nat
def tw14142502885225118848:=Nat
def tw10548783162686979305:=Nat
def tw16044733080236030384:=Nat
def tw10448899703829047738:=Nat
def tw11334350811105764591:=Nat
def tw15451780782824253742:=Nat
def tw12958502747184954254:=Nat
def tw517144808224063464:=Nat
def tw1321871150748368714:=Nat
def tw12819366960792805191:=Nat
def tw4383139521930768336:=Nat
def tw8810280945414196856:=Nat
def tw13044034144603486326:=Nat
def tw14282377253939248939:=Nat
def tw728428047077509346:=Nat
def tw1814787853859245837:=Nat
def tw10864713392326063847:=Nat
def tw14796646475526232899:=Nat
def tw6127594578889010139:=Nat
def tw2287823674025257028:=Nat
def tw3140898538269762758:=Nat
def tw297971269722091814:=Nat
def tw10341860258655708415:=Nat
def tw11430207588045935325:=Nat
def tw16174758807025615021:=Nat
def tw3669314199184481253:=Nat
def tw8507776931139520737:=Nat
def tw16004416686337608138:=Nat
def tw6196800358849779857:=Nat
def tw908825868028484722:=Nat
def tw9601329371697537090:=Nat
def tw6624316729101989866:=Nat
def tw13706816188851595723:=Nat
def tw15918733279669447828:=Nat
def tw1732150942055357024:=Nat
def tw4213018616267185653:=Nat
def tw12318557346453588183:=Nat
def tw4671429814451907529:=Nat
def tw4784893810139332661:=Nat
def tw15349318334595610263:=Nat
def tw9063741608606530840:=Nat
def tw11845233108574324481:=Nat
def tw9366391650621772374:=Nat
def tw4597200072644226624:=Nat
def tw3561193834555079511:=Nat
def tw5155950481276406077:=Nat
def tw3976154599441133093:=Nat
def tw11334203419191126389:=Nat
def tw11582926029173025856:=Nat
def tw15722756333993289495:=Nat
def tw15910696728931680470:=Nat
def tw2924597203103170677:=Nat
def tw17953984050398360512:=Nat
def tw105208000716104510:=Nat
def tw775762912060472103:=Nat
def tw5398424786039705171:=Nat
def tw4159251561096739476:=Nat
def tw3315250197877816394:=Nat
def tw15169761463676818070:=Nat
def tw14608685727046917156:=Nat
def tw1088946173253831356:=Nat
def tw18034075008235765660:=Nat
def tw5523086135645875356:=Nat
def tw12643491718579748851:=Nat
def tw3871027444623705763:=Nat
def tw2057334267981633021:=Nat
def tw4656485037274611717:=Nat
def tw10399464001100048223:=Nat
def tw17346259052997144950:=Nat
def tw4526881389914513428:=Nat
def tw2985252069258134486:=Nat
def tw7204998973626084599:=Nat
def tw10187724287525710026:=Nat
def tw216529984938456764:=Nat
def tw1988063486488863061:=Nat
def tw13318506193475082254:=Nat
def tw16155163154822807229:=Nat
def tw9227057690007400460:=Nat
def tw13120753694373217308:=Nat
def tw8345894832289464959:=Nat
def tw7391748860617359856:=Nat
def tw4076138812419527698:=Nat
def tw3422688185749166683:=Nat
def tw9442318146202087700:=Nat
def tw1040915598704419856:=Nat
def tw795583310449317561:=Nat
def tw11459358961799972967:=Nat
def tw4177254973167742082:=Nat
def tw8410488445778877200:=Nat
def tw17408102787539135390:=Nat
def tw8622502720953521162:=Nat
def tw3776753064480771068:=Nat
def tw1495599714519013414:=Nat
def tw4796303294375832693:=Nat
def tw1124271682379634556:=Nat
def tw2758071753971750899:=Nat
def tw370947364307004932:=Nat
def tw14390669486469195807:=Nat
def tw877433047237710547:=Nat
def tw5597187220613765494:=Nat
def tw15985961358823992270:=Nat
def tw18177719399980262173:=Nat
def tw8184561461823581802:=Nat
def tw1123975283337734383:=Nat
def tw13290321428070320777:=Nat
def tw3696473221133414273:=Nat
def tw9178861053002065721:=Nat
def tw4321519831107876412:=Nat
def tw864819663365544661:=Nat
def tw13928562000808390012:=Nat
def tw16759092144687519636:=Nat
def tw2443449257678562572:=Nat
def tw14349089067433371257:=Nat
def tw5225153198818245361:=Nat
def tw16420938139371093754:=Nat
def tw4736427724481360342:=Nat
def tw13359135706311490777:=Nat
def tw2727672472851901052:=Nat
def tw10090393231696489298:=Nat
def tw7381879191629600215:=Nat
def tw9589608677651300831:=Nat
def tw12787338502077490372:=Nat
def tw9378254376102152143:=Nat
def tw14762295962024373759:=Nat
def tw5938664839603501006:=Nat
def tw7008692893051332821:=Nat
def tw11762496359356365647:=Nat
def tw8538268897159353584:=Nat
def tw9743097575036673082:=Nat
def tw18086089286151905521:=Nat
def tw14615657086365298920:=Nat
def tw1149218181149386328:=Nat
def tw5476889619067714990:=Nat
def tw2581206410525282061:=Nat
def tw12392516345856041104:=Nat
def tw3217022616335106338:=Nat
def tw2417791160451022400:=Nat
def tw15499459402589274338:=Nat
def tw196536941598035525:=Nat
def tw8729362747519067210:=Nat
def tw9059672392935016618:=Nat
def tw11613256710310857696:=Nat
def tw17486766287000646611:=Nat
def tw6520327441239513222:=Nat
def tw8645369167282567922:=Nat
def tw16821654228018055803:=Nat
def tw76412952228603488:=Nat
def tw6176384092110617959:=Nat
def tw10783980745131425670:=Nat
def tw1676862907878916244:=Nat
def tw9166809390415177425:=Nat
def tw16325430554902658873:=Nat
def tw6674990990233134667:=Nat
def tw7198060816514059695:=Nat
def tw11240886729373846589:=Nat
def tw814325599930780420:=Nat
def tw16228763044005930535:=Nat
def tw1142415686869020238:=Nat
def tw7386116660499605909:=Nat
def tw11466170419677230873:=Nat
def tw11279390925490393535:=Nat
def tw6898770573198911631:=Nat
def tw9759319705405543751:=Nat
def tw6333448901615975916:=Nat
def tw6286779285267259847:=Nat
def tw11960245374511038805:=Nat
def tw6487610083215253720:=Nat
def tw6664487174759623829:=Nat
def tw860223938195835975:=Nat
def tw381845443943030031:=Nat
def tw14597223018079223185:=Nat
def tw10648311167861321448:=Nat
def tw12105128591322288922:=Nat
def tw12483720753089274532:=Nat
def tw12545222027267286695:=Nat
def tw13889309363888878346:=Nat
def tw17781115878593249900:=Nat
def tw9233335307524088747:=Nat
def tw2555065506035805374:=Nat
def tw7414872774492366064:=Nat
def tw7673058066778466091:=Nat
def tw15299407806266782574:=Nat
def tw5839659824258004927:=Nat
def tw3337584539547039419:=Nat
def tw3855276242980373810:=Nat
def tw8472579005086612782:=Nat
def tw13307591127769906961:=Nat
def tw9739860059890490050:=Nat
def tw4840481374290595910:=Nat
def tw13303987763403120937:=Nat
def tw7325726471975496349:=Nat
def tw14502225709538309166:=Nat
def tw12376051458212225564:=Nat
def tw12385144161495827662:=Nat
def tw81815255157605957:=Nat
def tw7855079511596107753:=Nat
def tw15058813355848621054:=Nat
def tw16273406610938067001:=Nat
def tw16123964013534891561:=Nat
def tw15092371282622821202:=Nat
def tw17671270875357681807:=Nat
def tw8139039716903228087:=Nat
def tw5889316905344633881:=Nat
def tw3567177698169325468:=Nat
def tw7847352863974893604:=Nat
def tw2126296398998916975:=Nat
def tw13822267516522204269:=Nat
def tw16782997733028217545:=Nat
def tw6973401727384321114:=Nat
def tw2312856594315299383:=Nat
def tw18237780215024852062:=Nat
def tw3474246075231452896:=Nat
def tw3767615275625035234:=Nat
def tw146815374380898660:=Nat
def tw13983857475226248213:=Nat
def tw9614876229902214918:=Nat
def tw16439428074185983240:=Nat
def tw7250933059871147345:=Nat
def tw4205137553216949640:=Nat
def tw10361075674979980167:=Nat
def tw620129878449983639:=Nat
def tw5581607755468803823:=Nat
def tw9059832203979395877:=Nat
def tw1869187583165140508:=Nat
def tw11536330283829923712:=Nat
def tw8689318265317240412:=Nat
def tw887695700811335699:=Nat
def tw1294077662247117797:=Nat
def tw13710211086531791108:=Nat
def tw7527032243904285869:=Nat
def tw14657780768301432306:=Nat
def tw5860347150701562758:=Nat
def tw3739144386018749749:=Nat
def tw17469865338272021226:=Nat
def tw1638113669730673903:=Nat
def tw14826035006057030972:=Nat
def tw10567129059001840431:=Nat
def tw3207569582813703071:=Nat
def tw13134186033006778460:=Nat
def tw1843344800811705456:=Nat
def tw5278709424875269971:=Nat
def tw10562855833978642645:=Nat
def tw1195175773429642966:=Nat
def tw2369445192022557226:=Nat
def tw11423202765487971197:=Nat
def tw7458633546980236471:=Nat
def tw17022078359063049780:=Nat
def tw8265311939077410998:=Nat
def tw9843447840031818808:=Nat
def tw11199532085631943738:=Nat
def tw17860980792414646946:=Nat
def tw1971433849790844608:=Nat
def tw17030962893124633753:=Nat
def tw4547283496358047369:=Nat
def tw2405475915293451298:=Nat
def tw17342085116792181814:=Nat
def tw2464713573024523455:=Nat
def tw9503340733035011235:=Nat
def tw11760055953109336660:=Nat
def tw8735323631387419056:=Nat
def tw2812155379371279736:=Nat
def tw13012589842206080548:=Nat
def tw8598144960395782539:=Nat
def tw7160873610591055699:=Nat
def tw10694878333477680388:=Nat
def tw4859757453598101857:=Nat
def tw1483126911874232274:=Nat
def tw1833847959688406909:=Nat
def tw14861896470697024400:=Nat
def tw2741389259953327712:=Nat
def tw1275901062530889299:=Nat
def tw9951221954081769418:=Nat
def tw17565814175750979855:=Nat
def tw4835499133494076262:=Nat
def tw1886144042066472794:=Nat
def tw16415559393655328363:=Nat
def tw17177869089781658578:=Nat
def tw18367679650794681301:=Nat
def tw1655259298481077034:=Nat
def tw649594095290182367:=Nat
def tw14689303997561334279:=Nat
def tw6659320528611288953:=Nat
def tw7600245330811189008:=Nat
def tw9233715247699887402:=Nat
def tw8140125068956082859:=Nat
def tw2835187731363253809:=Nat
def tw15740088241188596515:=Nat
def tw7429413206186439793:=Nat
def tw1601500998369573665:=Nat
def tw2988451766255067171:=Nat
def tw8043003576528973991:=Nat
def tw2847958352784047137:=Nat
def tw453181688931711583:=Nat
def tw2665807947273092163:=Nat
def tw11199710921928265848:=Nat
def tw2506305409684761478:=Nat
def tw6430265229019958763:=Nat
def tw12764151676501842404:=Nat
def tw9229161468869434483:=Nat
def tw16550210197400561554:=Nat
def tw18064794426631996164:=Nat
def tw3796891538752321733:=Nat
def tw12425085872883035938:=Nat
def tw16885616592811714743:=Nat
def tw5609151216138764652:=Nat
def tw12209182163369298222:=Nat
def tw9152664641465651067:=Nat
def tw8679839319945467846:=Nat
def tw5225916559131626549:=Nat
def tw6761616313442571491:=Nat
def tw2514443458684651071:=Nat
def tw4916261283513009128:=Nat
def tw5088376156974544275:=Nat
def tw104434173382791472:=Nat
def tw13968125046926948103:=Nat
def tw15362295582089109014:=Nat
def tw16878204669230926818:=Nat
def tw12622177474791663080:=Nat
def tw5105846836358774362:=Nat
def tw681777741448182936:=Nat
def tw10484538523117445312:=Nat
def tw2007660962349395123:=Nat
def tw10001883323181062329:=Nat
def tw14374289702345001990:=Nat
def tw16719718919923625709:=Nat
def tw7715697345341360870:=Nat
def tw2249405535684624136:=Nat
def tw10987319290404115282:=Nat
def tw594810645892935528:=Nat
def tw9961057766049560675:=Nat
def tw427269002284569659:=Nat
def tw16453443671601555132:=Nat
def tw8813761850579938390:=Nat
def tw13562833436174130633:=Nat
def tw6930518751129746686:=Nat
def tw17103585973383926153:=Nat
def tw8973803690348224638:=Nat
def tw1112988674713690477:=Nat
def tw9919435345466941130:=Nat
def tw84136930442132756:=Nat
def tw5058314954733539658:=Nat
def tw8281120267493503204:=Nat
def tw11141966352661209427:=Nat
def tw47109162367338493:=Nat
def tw1047907039808853306:=Nat
def tw708234853630380328:=Nat
def tw513902232445383129:=Nat
def tw15878805988109762761:=Nat
def tw16795567611416646642:=Nat
def tw4828031223510198475:=Nat
def tw14747140909534839006:=Nat
def tw7743179893348639699:=Nat
def tw16597617366809209970:=Nat
def tw16713831800681072344:=Nat
def tw14973475382307904323:=Nat
def tw10574840078274726829:=Nat
def tw15361541807878343388:=Nat
def tw12012865196380796599:=Nat
def tw5915399644114372684:=Nat
def tw14399976873020721970:=Nat
def tw2686433634493928565:=Nat
def tw6572447435987645144:=Nat
def tw6749217079512962374:=Nat
def tw53344730913325255:=Nat
def tw10617020205504526918:=Nat
def tw13091174067606910046:=Nat
def tw4940147422707163885:=Nat
def tw16541100652227675460:=Nat
def tw4498253355057717688:=Nat
def tw3002795768020413707:=Nat
def tw14724332232928298890:=Nat
def tw1706793611546318481:=Nat
def tw17492772389151264855:=Nat
def tw13799840507378627052:=Nat
def tw12080426169559351053:=Nat
def tw4655869559712951663:=Nat
def tw15877122091014420850:=Nat
def tw14901070454687303710:=Nat
def tw17219337458794519322:=Nat
def tw11546936639936008217:=Nat
def tw17046948494117081484:=Nat
def tw15245507539482535896:=Nat
def tw16054190913257422852:=Nat
def tw17470836177267949868:=Nat
def tw5667650583090716360:=Nat
def tw12317137736924338119:=Nat
def tw1212798325632107971:=Nat
def tw6662652255960138227:=Nat
def tw6756868429301003459:=Nat
def tw7681529838311687354:=Nat
def tw4331257952254489624:=Nat
def tw13501252493785611398:=Nat
def tw14263998999751124003:=Nat
def tw6124053682588569230:=Nat
def tw12094960947251128927:=Nat
def tw5118827330378232414:=Nat
def tw8640399195822439974:=Nat
def tw3254097082911018636:=Nat
def tw17620759639134147866:=Nat
def tw2544169868661182894:=Nat
def tw6694047246710070196:=Nat
def tw987869383939708018:=Nat
def tw8892184565913893157:=Nat
def tw9590735534726013551:=Nat
def tw8874702517807110003:=Nat
def tw13369591340354186047:=Nat
def tw4947570209858738039:=Nat
def tw8148004212497801138:=Nat
def tw1516213087968936877:=Nat
def tw5766051744304087583:=Nat
def tw8968299171318014206:=Nat
def tw3490714775656875082:=Nat
def tw15569959144833144457:=Nat
def tw7671549972530922468:=Nat
def tw2220570432770164149:=Nat
def tw2029088862249889922:=Nat
def tw17355269125676882429:=Nat
def tw10657950659306570408:=Nat
def tw2822501910515967889:=Nat
def tw11457754044182789617:=Nat
def tw14823308797102314842:=Nat
def tw9962302188120564619:=Nat
def tw15177526630643400193:=Nat
def tw15874363893724204672:=Nat
def tw672699306608606093:=Nat
def tw4220239150373070436:=Nat
def tw12415523145999629524:=Nat
def tw10773188271377071773:=Nat
def tw16869712714098612864:=Nat
def tw14917401599646851644:=Nat
def tw14371913498598963198:=Nat
def tw14402358008270493973:=Nat
def tw18289109515434150305:=Nat
def tw6859976401760118174:=Nat
def tw13177472732611162249:=Nat
def tw17810072253543177317:=Nat
def tw10936122117785486979:=Nat
def tw10915162052029792233:=Nat
def tw3479634599624807885:=Nat
def tw4134505453457115739:=Nat
def tw8237333600419904120:=Nat
def tw10079171474624433434:=Nat
def tw9272544492142499777:=Nat
def tw6240723676877644813:=Nat
def tw3969286963782609292:=Nat
def tw8657480035899644758:=Nat
def tw8107780213005350392:=Nat
def tw705360758644809490:=Nat
def tw18085771088847121727:=Nat
def tw18186074749648716422:=Nat
def tw16104615914030681952:=Nat
def tw10996937224433265937:=Nat
def tw1139600151236580504:=Nat
def tw16900427199656544559:=Nat
end top
theorem top : PySem.Challenge.rw_pq1098_01.Holds := by
  w_on; o_law; k_head; (case hw => w_witness2)
  exact walk_of (fun pm => ⟨by kernel_rfl, by kernel_rfl, by kernel_rfl, by kernel_rfl, by kernel_rfl, by kernel_rfl, by kernel_rfl, by kernel_rfl, by kernel_rfl, by kernel_rfl, by kernel_rfl, by kernel_rfl, by kernel_rfl, by kernel_rfl, by kernel_rfl, by kernel_rfl, by kernel_rfl⟩) (by kernel_rfl) layE (by decide) plain
end Mine
end
end
theorem PySem.Challenge.cw_pq1098_01_holds : PySem.Challenge.rw_pq1098_01.Holds :=
 Mine.top
