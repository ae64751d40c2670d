import PyProof.Rows.All
import Wide.All
import OpenK.AllK
import Wide.FinOn
import PySem.Challenge.RW_up0037_01
set_option Elab.async false
set_option autoImplicit false
set_option linter.all false
set_option bootstrap.genMatcherCode false
set_option genSizeOf false
set_option tactic.hygienic false
set_option maxRecDepth 100000
open PySem PySem.W
noncomputable section
namespace Mine
abbrev aH:= @Nat.add_le_add
def bM{b:Type _}{a:b}{l:List b}:(a::l)[0]? =some a:=rfl
abbrev bI:= @Nat.le_of_ble_eq_true
def cF{b:Type _}{a:b}{l:List b}{i:Nat}:(a::l)[i+1]? =l[i]? :=rfl
def cA{c:Type _}{a b:c}{l:List c}:(a::l).set 0 b=b::l:=rfl
def cB{c:Type _}{a b:c}{l:List c}{i:Nat}:(a::l).set (i+1) b=a::l.set i b:=rfl
abbrev cD:= @Nat.le_of_not_lt
def cV{b:Type _}{a:b}{l:List b}:(a::l).length=l.length+1:=rfl
def cY{a:Type _}:([]:List a).length=0:=rfl
abbrev bP:= @Nat.le_refl
abbrev bK:= @Nat.lt_of_not_le
abbrev cC:= @List.length_append
abbrev bS:= @List.prefix_refl
abbrev bE:= @Int.add_le_add
abbrev bN:= @List.length_map
abbrev cW:= @List.mem_cons_self
abbrev cM:= @Bool.and_eq_true
abbrev dP:= @Nat.le_succ_of_le
abbrev gO:= @List.getElem?_eq_getElem
abbrev eE:= @List.prefix_append
def dw{a:Type _}(l:List a):[]++l=l:=rfl
abbrev fV:= @Nat.not_succ_le_self
abbrev fJ:= @Nat.mul_le_mul_left
abbrev gh:= @List.mem_cons_of_mem
def cP{b c:Type _}{f:b->c}{a:b}{l:List b}:(a::l).map f=f a::l.map f:=rfl
abbrev a_:= @Or.elim
abbrev fW:= @List.append_assoc
abbrev fE:= @Option.some.inj
abbrev fK:= @List.append_nil
abbrev iT:= @Int.natCast_nonneg
abbrev iX:= @List.flatten_cons
abbrev j7:= @List.getElem?_set_ne
abbrev iW:= @Nat.le_antisymm
abbrev gA:= @List.map_map
abbrev ly:= @Array.length_toList
abbrev nh:= @Array.getElem?_toList
abbrev gV:= @Nat.lt_trans
abbrev iA:= @Nat.le_trans
abbrev gP:= @Nat.zero_le
abbrev nR:= @List.mem_of_getElem?
abbrev nT:= @List.mem_append_left
abbrev nc:= @List.nodup_append
abbrev ry:= @List.mem_append_right
abbrev pG:= @Nat.lt_of_lt_of_le
abbrev lG:= @List.nodup_cons
abbrev uw:= @List.getElem?_append_left
abbrev xw:= @Array.getElem?_eq_getElem
abbrev rB:= @Bool.false_eq_true
abbrev vN:= @List.getElem?_set_self
abbrev oU:= @List.Perm.refl
abbrev se:= @Int.toNat_natCast
abbrev Af:= @List.getElem?_append_right
abbrev tK:= @List.not_mem_nil
abbrev wA:= @List.flatten_append
abbrev yq:= @List.length_filter_le
abbrev oO:= @Nat.lt_or_ge
abbrev sG:= @Nat.le_add_left
abbrev wJ:= @List.filter_append
abbrev yf:= @Nat.not_succ_le_zero
abbrev xx:= @Nat.le_of_lt_succ
abbrev qg:= @List.map_nil
abbrev CU:= @List.mem_of_find?_eq_some
abbrev zT:= @List.getElem?_eq_none
abbrev wC:= @List.flatten_nil
abbrev CO:= @List.pairwise_mergeSort
abbrev vO:= @List.length_set
abbrev Ae:= @List.mergeSort_perm
abbrev Dj:= @List.filter_eq_nil_iff
abbrev uA:= @Bool.true_and
abbrev Am:= @Nat.lt_of_le_of_lt
abbrev Gm:= @List.getD_eq_getElem?_getD
abbrev x_:= @Int.le_antisymm
abbrev Az:= @Nat.zero_lt_of_lt
abbrev Ds:= @Nat.le_sub_one_of_lt
abbrev uD:= @Nat.le_of_eq
abbrev CK:= @List.pairwise_append
abbrev ux:= @Int.ne_of_gt
abbrev uz:= @Int.le_of_lt
abbrev xu:= @Nat.lt_irrefl
abbrev C3:= @Nat.add_le_add_left
abbrev Dg:= @List.getElem_of_mem
abbrev yU:= @List.nodup_nil
abbrev Gn:= @Int.eq_ofNat_of_zero_le
abbrev xy:= @Nat.le_of_lt
abbrev sX:= @Exists.imp
abbrev Ad:= @Bool.eq_iff_iff
abbrev CV:= @List.any_eq_false
abbrev C6:= @Bool.not_eq_true'
abbrev Ab:= @Bool.false_and
abbrev Df:= @Nat.lt_succ_self
abbrev Dc:= @List.cons_append
abbrev CN:= @List.any_eq_true
abbrev Dq:= @List.all_eq_true
abbrev Jh:= @Classical.byContradiction
abbrev EL:= @Nat.add_sub_cancel'
abbrev AA:= @Nat.add_assoc
abbrev AB:= @Int.lt_irrefl
abbrev CQ:= @List.filter_map
abbrev CP:= @Bool.or_eq_true
abbrev E_:= @List.pairwise_cons
abbrev yx:= @List.find?_eq_none
abbrev yN:= @Int.lt_of_lt_of_le
abbrev rX:= @Nat.sub_self
abbrev yj:= @List.getElem?_map
abbrev BQ:= @PyProof.Rows.tail_any
abbrev Bg:= @List.set_append_right
abbrev Bs:= @List.Perm.append_left
def ff{P:Prop}(h:false=true):P:=Bool.noConfusion h
def oo{a:Type}{x:a}{P:Prop}(h:none=some x):P:=by cases h
@[elab_as_elim] def rQ{c:Sort _}{a b:c}{P:c->Prop}(h:a=b)(p:P b):P a:=h.symm.rec p
def cR{p q P:Prop}(h:p/\q)(k:p->q->P):P:=h.elim k
def fD{p q r P:Prop}(h:p/\q/\r)(k:p->q->r->P):P:=h.elim λa h=>h.elim (k a)
def qs{p q r s P:Prop}(h:p/\q/\r/\s)(k:p->q->r->s->P):P:=h.elim λa h=>h.elim λb h=>h.elim (k a b)
def rS{p q r s u P:Prop}(h:p/\q/\r/\s/\u)(k:p->q->r->s->u->P):P:=h.elim λa h=>h.elim λb h=>h.elim λc h=>h.elim (k a b c)
def FY{e:Type}{p q r P:Prop}{s u:e->Prop}(h:p/\q/\r/\∃a,s a/\u a)(k:p->q->r->∀a,s a->u a->P):P:=h.elim λb h=>h.elim λc h=>h.elim λd h=>h.elim λa h=>h.elim (k b c d a)
def tN{e:Type}{p q P:Prop}{r s u:e->Prop}(h:p/\q/\∃a,r a/\s a/\u a)(k:p->q->∀a,r a->s a->u a->P):P:=h.elim λb h=>h.elim λc h=>h.elim λa h=>h.elim λd h=>h.elim (k b c a d)
def tO{f d:Type}{p q P:Prop}{r s:f->d->Prop}(h:p/\q/\∃a b,r a b/\s a b)(k:p->q->∀a b,r a b->s a b->P):P:=h.elim λc h=>h.elim λe h=>h.elim λa h=>h.elim λb h=>h.elim (k c e a b)
def Gp{c:Type}{p P:Prop}{q:c->Prop}(h:p/\∃a,q a)(k:p->∀a,q a->P):P:=h.elim λb h=>h.elim (k b)
def Dt{g d:Type}{p P:Prop}{q r s u:g->d->Prop}(h:p/\∃a b,q a b/\r a b/\s a b/\u a b)(k:p->∀a b,q a b->r a b->s a b->u a b->P):P:=h.elim λc h=>h.elim λa h=>h.elim λb h=>h.elim λe h=>h.elim λf h=>h.elim (k c a b e f)
def ez{b:Type}{p:b->Prop}{P:Prop}(h:∃a,p a)(k:∀a,p a->P):P:=h.elim k
def aB{b:Type}{p q:b->Prop}{P:Prop}(h:∃a,p a/\q a)(k:∀a,p a->q a->P):P:=h.elim λa h=>h.elim (k a)
def eG{c:Type}{p q r:c->Prop}{P:Prop}(h:∃a,p a/\q a/\r a)(k:∀a,p a->q a->r a->P):P:=h.elim λa h=>h.elim λb h=>h.elim (k a b)
def iN{d:Type}{p q r s:d->Prop}{P:Prop}(h:∃a,p a/\q a/\r a/\s a)(k:∀a,p a->q a->r a->s a->P):P:=h.elim λa h=>h.elim λb h=>h.elim λc h=>h.elim (k a b c)
def cO{d c:Type}{p:d->c->Prop}{P:Prop}(h:∃a b,p a b)(k:∀a b,p a b->P):P:=h.elim λa h=>h.elim (k a)
def lM{d c:Type}{p q:d->c->Prop}{P:Prop}(h:∃a b,p a b/\q a b)(k:∀a b,p a b->q a b->P):P:=h.elim λa h=>h.elim λb h=>h.elim (k a b)
def aS{e d:Type}{p q r:e->d->Prop}{P:Prop}(h:∃a b,p a b/\q a b/\r a b)(k:∀a b,p a b->q a b->r a b->P):P:=h.elim λa h=>h.elim λb h=>h.elim λc h=>h.elim (k a b c)
def mK{g d:Type}{p q r s u:g->d->Prop}{P:Prop}(h:∃a b,p a b/\q a b/\r a b/\s a b/\u a b)(k:∀a b,p a b->q a b->r a b->s a b->u a b->P):P:=h.elim λa h=>h.elim λb h=>h.elim λc h=>h.elim λe h=>h.elim λf h=>h.elim (k a b c e f)
def qV{l d:Type}{p q r s u v w:l->d->Prop}{P:Prop}(h:∃a b,p a b/\q a b/\r a b/\s a b/\u a b/\v a b/\w a b)(k:∀a b,p a b->q a b->r a b->s a b->u a b->v a b->w a b->P):P:=h.elim λa h=>h.elim λb h=>h.elim λc h=>h.elim λj h=>h.elim λg h=>h.elim λf h=>h.elim λe h=>h.elim (k a b c j g f e)
def sM{f e d:Type}{p:f->e->d->Prop}{P:Prop}(h:∃a b c,p a b c)(k:∀a b c,p a b c->P):P:=h.elim λa h=>h.elim λb h=>h.elim (k a b)
def BR{f e d:Type}{p q:f->e->d->Prop}{P:Prop}(h:∃a b c,p a b c/\q a b c)(k:∀a b c,p a b c->q a b c->P):P:=h.elim λa h=>h.elim λb h=>h.elim λc h=>h.elim (k a b c)
def tP{g f e:Type}{p q r:g->f->e->Prop}{P:Prop}(h:∃a b c,p a b c/\q a b c/\r a b c)(k:∀a b c,p a b c->q a b c->r a b c->P):P:=h.elim λa h=>h.elim λb h=>h.elim λc h=>h.elim λd h=>h.elim (k a b c d)
def jx{j f e:Type}{p q r s:j->f->e->Prop}{P:Prop}(h:∃a b c,p a b c/\q a b c/\r a b c/\s a b c)(k:∀a b c,p a b c->q a b c->r a b c->s a b c->P):P:=h.elim λa h=>h.elim λb h=>h.elim λc h=>h.elim λd h=>h.elim λg h=>h.elim (k a b c d g)
def iY{m f e:Type}{p q r s u v:m->f->e->Prop}{P:Prop}(h:∃a b c,p a b c/\q a b c/\r a b c/\s a b c/\u a b c/\v a b c)(k:∀a b c,p a b c->q a b c->r a b c->s a b c->u a b c->v a b c->P):P:=h.elim λa h=>h.elim λb h=>h.elim λc h=>h.elim λd h=>h.elim λl h=>h.elim λj h=>h.elim λg h=>h.elim (k a b c d l j g)
def aY{n f e:Type}{p q r s u v w:n->f->e->Prop}{P:Prop}(h:∃a b c,p a b c/\q a b c/\r a b c/\s a b c/\u a b c/\v a b c/\w a b c)(k:∀a b c,p a b c->q a b c->r a b c->s a b c->u a b c->v a b c->w a b c->P):P:=h.elim λa h=>h.elim λb h=>h.elim λc h=>h.elim λd h=>h.elim λm h=>h.elim λl h=>h.elim λj h=>h.elim λg h=>h.elim (k a b c d m l j g)
def nG{t f e:Type}{p q r s u v w m:t->f->e->Prop}{P:Prop}(h:∃a b c,p a b c/\q a b c/\r a b c/\s a b c/\u a b c/\v a b c/\w a b c/\m a b c)(k:∀a b c,p a b c->q a b c->r a b c->s a b c->u a b c->v a b c->w a b c->m a b c->P):P:=h.elim λa h=>h.elim λb h=>h.elim λc h=>h.elim λd h=>h.elim λo h=>h.elim λl h=>h.elim λj h=>h.elim λg h=>h.elim λn h=>h.elim (k a b c d o l j g n)
def cN{A f e:Type}{p q r s u v w m n o:A->f->e->Prop}{P:Prop}(h:∃a b c,p a b c/\q a b c/\r a b c/\s a b c/\u a b c/\v a b c/\w a b c/\m a b c/\n a b c/\o a b c)(k:∀a b c,p a b c->q a b c->r a b c->s a b c->u a b c->v a b c->w a b c->m a b c->n a b c->o a b c->P):P:=h.elim λa h=>h.elim λb h=>h.elim λc h=>h.elim λd h=>h.elim λz h=>h.elim λt h=>h.elim λj h=>h.elim λg h=>h.elim λx h=>h.elim λy h=>h.elim λl h=>h.elim (k a b c d z t j g x y l)
def pA{j g e f:Type}{p:j->g->e->f->Prop}{P:Prop}(h:∃a b c d,p a b c d)(k:∀a b c d,p a b c d->P):P:=h.elim λa h=>h.elim λb h=>h.elim λc h=>h.elim (k a b c)
def eS{m j f g l:Type}{p:m->j->f->g->l->Prop}{P:Prop}(h:∃a b c d e,p a b c d e)(k:∀a b c d e,p a b c d e->P):P:=h.elim λa h=>h.elim λb h=>h.elim λc h=>h.elim λd h=>h.elim (k a b c d)
def gG{o l g j m n:Type}{p:o->l->g->j->m->n->Prop}{P:Prop}(h:∃a b c d e f,p a b c d e f)(k:∀a b c d e f,p a b c d e f->P):P:=h.elim λa h=>h.elim λb h=>h.elim λc h=>h.elim λd h=>h.elim λe h=>h.elim (k a b c d e)
noncomputable def opt{b:Type}(o:Option b)(F:b->Bool):Bool:=match o with
 |some a=>F a
 |none=>false
def lV{b:Type}{o:Option b}{F:b->Bool}{P:Prop}(h:opt o F=true)(k:∀a,o=some a->F a=true->P):P:=by
 cases o with
 |none=>exact ff h
 |some a=>exact k a rfl h
def kT{a b:Bool}{P:Prop}(h:(a&&b)=true)(k:a=true->b=true->P):P:=by
 cases a with
 |false=>exact ff h
 |true=>exact k rfl h
noncomputable def Nh(a:Nat):Lean.RArray Nat:= .leaf a
noncomputable def uE(p a:Nat)(r:Lean.RArray Nat):Lean.RArray Nat:= .branch p (.leaf a) r
open Nat.Internal.Linear in
def bx(x:Context)(l r:Nat.Internal.Linear.Expr)(h:l.denote x<=r.denote x)(u:(ExprCnstr.mk false l r).toNormPoly.isUnsat=true):False:=(ExprCnstr.eq_false_of_isUnsat x ⟨false,l,r⟩ u).mp h
noncomputable def Rh(a:Int):Lean.RArray Int:= .leaf a
noncomputable def Ow(p:Nat)(a:Int)(r:Lean.RArray Int):Lean.RArray Int:= .branch p (.leaf a) r
open Int.Internal.Linear in
def dJ(x:Context)(l r:Int.Internal.Linear.Expr)(h:l.denote x<=r.denote x)(u:(l.sub r).norm.isUnsatLe=true):False:=(le_eq_false x l r u).mp h
noncomputable def AI:Int.Internal.Linear.Expr->Int.Internal.Linear.Expr->Int.Internal.Linear.Expr:= .add
noncomputable def AN:Nat.Internal.Linear.Expr->Nat.Internal.Linear.Expr->Nat.Internal.Linear.Expr:= .add
def fP(a:Int):Lean.RArray Int:=(Rh a)
def xU(a b:Int):Lean.RArray Int:=(Ow 1 a (Rh b))
def Pn(a b c:Int):Lean.RArray Int:=(Ow 1 a (Ow 2 b (Rh c)))
def T8(a b c d:Int):Lean.RArray Int:=(Ow 1 a (Ow 2 b (Ow 3 c (Rh d))))
def CC(a:Nat):Lean.RArray Nat:=(Nh a)
def fL(a b:Nat):Lean.RArray Nat:=(uE 1 a (Nh b))
def jt(a b c:Nat):Lean.RArray Nat:=(uE 1 a (uE 2 b (Nh c)))
def oJ(a b c d:Nat):Lean.RArray Nat:=(uE 1 a (uE 2 b (uE 3 c (Nh d))))
def CA(a b c d e:Nat):Lean.RArray Nat:=(uE 1 a (uE 2 b (uE 3 c (uE 4 d (Nh e)))))
def Pe(a b c d e f:Nat):Lean.RArray Nat:=(uE 1 a (uE 2 b (uE 3 c (uE 4 d (uE 5 e (Nh f))))))
def Q0(a b c d e f g:Nat):Lean.RArray Nat:=(uE 1 a (uE 2 b (uE 3 c (uE 4 d (uE 5 e (uE 6 f (Nh g)))))))
noncomputable def jb:Int.Internal.Linear.Expr:= .num 0
noncomputable def ck:Int.Internal.Linear.Expr:= .num 1
noncomputable def oW:Nat.Internal.Linear.Expr:= .num 0
noncomputable def aA:Nat.Internal.Linear.Expr:= .num 1
noncomputable def bH:Int.Internal.Linear.Expr:= .var 0
noncomputable def jr:Int.Internal.Linear.Expr:= .var 1
noncomputable def D3:Int.Internal.Linear.Expr:= .var 2
noncomputable def Tj:Int.Internal.Linear.Expr:= .var 3
noncomputable def aE:Nat.Internal.Linear.Expr:= .var 0
noncomputable def aI:Nat.Internal.Linear.Expr:= .var 1
noncomputable def bg:Nat.Internal.Linear.Expr:= .var 2
noncomputable def dm:Nat.Internal.Linear.Expr:= .var 3
noncomputable def j4:Nat.Internal.Linear.Expr:= .var 4
noncomputable def xV:Nat.Internal.Linear.Expr:= .var 5
noncomputable def K7:Nat.Internal.Linear.Expr:= .var 6
def Qe{x:Int}{c:Nat}(h:x.natAbs<c): -(c:Int)<x/\x<c:=by
 cases x with
 |ofNat n=>exact⟨yN (Int.neg_neg_of_pos (Int.ofNat_lt.mpr (Am (gP _) h))) (iT n),Int.ofNat_lt.mpr h⟩
 |negSucc n=>exact⟨Int.neg_lt_neg (Int.ofNat_lt.mpr h),yN (Int.negSucc_lt_zero n) (iT c)⟩
def Qf{x:Int}{c:Nat}(h: -(c:Int)<x)(k:x<c):x.natAbs<c:=by
 cases x with
 |ofNat n=>exact Int.ofNat_lt.mp k
 |negSucc n=>exact Int.ofNat_lt.mp (Int.lt_of_neg_lt_neg h)
def JJ{x:Int}(h:x.natAbs<2^62): -4611686018427387904<x/\x<4611686018427387904:=Qe h
def Ud{x:Int}(h:x.natAbs<2^63): -9223372036854775808<x/\x<9223372036854775808:=Qe h
def CD{x:Int}(h: -4611686018427387904<x)(k:x<4611686018427387904):x.natAbs<2^62:=Qf h k
def Dd{x:Int}(h: -9223372036854775808<x)(k:x<9223372036854775808):x.natAbs<2^63:=Qf h k
def zt{a b c:Nat}(h:a<=b)(k:b<=c):a<=c:=iA h k
def zg{a b:Nat}(h:a+1<=b):b≠a:=Nat.ne_of_gt h
def zl{a b:Nat}(h:a+1<=b):a≠b:=Nat.ne_of_lt h
def za{a b:Nat}(h:a<=b)(k:Nat):a+k<=b+k:=Nat.add_le_add_right h k
def zs{a b:Nat}(h:a+1<=b):a<=b:=Nat.le_of_succ_le h
def ze{a b:Nat}(h:a=b):a<=b:=uD h
def zf{a b:Nat}(h:a=b):b<=a:=uD h.symm
def zr{a:Nat}(k:Nat):a<=a+k:=Nat.le_add_right a k
def zm(i:Nat): -2^62<(i:Int):=yN (by decide) (iT i)
def zu{i:Nat}(h:i+1<=2^62):(i:Int)<2^62:=Int.ofNat_lt.mpr h
def LW(i:Nat): ¬(i:Int)<0:=Int.not_lt.mpr (iT i)
def al{a:Type}{l r:List a}:l.length<=(l++r).length:=(eE l r).length_le
def Td{b:Type}{l:List b}{a:b}:(l++ [a]).length=l.length+1:=cC
def PK{b:Type}{l:List b}{a:b}:l.length<(l++ [a]).length:=uD Td.symm
def zb{a b:Nat}(h:Nat.ble a b=true):a<=b:=bI h
def RE{n:Nat}(h:n<=1):n=0\/n=1:=(Nat.lt_or_eq_of_le h).imp_left Nat.lt_one_iff.mp
def Ue{v n:Int}(h:v<n+1)(e: ¬v=n):v<n:=Int.lt_iff_le_and_ne.mpr ⟨Int.lt_add_one_iff.mp h,e⟩
def cs{P:Int->Prop}{v:Int}(n:Int)(h:v<n+1)(k:P n)(r:v<n->P v):P v:=(Classical.em (v=n)).elim (λe=>e▸k) λe=>r (Ue h e)
def c0{P:Prop}{v:Int}(a:0<=v)(h:v<0):P:=absurd h (Int.not_lt.mpr a)
def or3{v:Int}(a:0<=v)(h:v<3):v=0\/v=1\/v=2:=cs (P:=λv=>v=0\/v=1\/v=2) 2 h (.inr (.inr rfl)) λh=>cs (P:=λv=>v=0\/v=1\/v=2) 1 h (.inr (.inl rfl)) λh=>cs (P:=λv=>v=0\/v=1\/v=2) 0 h (.inl rfl) λh=>c0 a h
def Uc{v:Int}(a:0<=v)(h:v<2):v=0\/v=1:=cs (P:=λv=>v=0\/v=1) 1 h (.inr rfl) λh=>cs (P:=λv=>v=0\/v=1) 0 h (.inl rfl) λh=>c0 a h
def TX{v:Int}(a:0<=v)(h:v<4):v=0\/v=1\/v=2\/v=3:=cs (P:=λv=>v=0\/v=1\/v=2\/v=3) 3 h (.inr (.inr (.inr rfl))) λh=>cs (P:=λv=>v=0\/v=1\/v=2\/v=3) 2 h (.inr (.inr (.inl rfl))) λh=>cs (P:=λv=>v=0\/v=1\/v=2\/v=3) 1 h (.inr (.inl rfl)) λh=>cs (P:=λv=>v=0\/v=1\/v=2\/v=3) 0 h (.inl rfl) λh=>c0 a h
def T_{v:Int}(a:0<=v)(h:v<9):v=0\/v=1\/v=2\/v=3\/v=4\/v=5\/v=6\/v=7\/v=8:=cs (P:=λv=>v=0\/v=1\/v=2\/v=3\/v=4\/v=5\/v=6\/v=7\/v=8) 8 h (.inr (.inr (.inr (.inr (.inr (.inr (.inr (.inr rfl)))))))) λh=>cs (P:=λv=>v=0\/v=1\/v=2\/v=3\/v=4\/v=5\/v=6\/v=7\/v=8) 7 h (.inr (.inr (.inr (.inr (.inr (.inr (.inr (.inl rfl)))))))) λh=>cs (P:=λv=>v=0\/v=1\/v=2\/v=3\/v=4\/v=5\/v=6\/v=7\/v=8) 6 h (.inr (.inr (.inr (.inr (.inr (.inr (.inl rfl))))))) λh=>cs (P:=λv=>v=0\/v=1\/v=2\/v=3\/v=4\/v=5\/v=6\/v=7\/v=8) 5 h (.inr (.inr (.inr (.inr (.inr (.inl rfl)))))) λh=>cs (P:=λv=>v=0\/v=1\/v=2\/v=3\/v=4\/v=5\/v=6\/v=7\/v=8) 4 h (.inr (.inr (.inr (.inr (.inl rfl))))) λh=>cs (P:=λv=>v=0\/v=1\/v=2\/v=3\/v=4\/v=5\/v=6\/v=7\/v=8) 3 h (.inr (.inr (.inr (.inl rfl)))) λh=>cs (P:=λv=>v=0\/v=1\/v=2\/v=3\/v=4\/v=5\/v=6\/v=7\/v=8) 2 h (.inr (.inr (.inl rfl))) λh=>cs (P:=λv=>v=0\/v=1\/v=2\/v=3\/v=4\/v=5\/v=6\/v=7\/v=8) 1 h (.inr (.inl rfl)) λh=>cs (P:=λv=>v=0\/v=1\/v=2\/v=3\/v=4\/v=5\/v=6\/v=7\/v=8) 0 h (.inl rfl) λh=>c0 a h
def RG{k:Int}(h:k=34\/k=35): ¬k=36:=λe=>by subst e;exact absurd h (by decide)
def RM(n:Nat):((n+1:Nat):Int)-1=n:=Int.add_sub_cancel n 1
def UI{a b:Nat}:((a:Int)>b)=(b<a):=propext Int.ofNat_lt
def PD{a:Nat}:((a:Int)>1)=(1<a):=propext Int.ofNat_lt
def Pr{a:Nat}:((a:Int)>0)=(0<a):=propext Int.ofNat_lt
def SX{a b:Int}:decide (a<=b)=true\/decide (b<=a)=true:=(Int.le_total a b).imp decide_eq_true decide_eq_true
inductive V where
 |none |bool (b:Bool) |int (i:Int) |str (n:Nat) |ref (a:Nat) |tup (l:List V)
 deriving Inhabited
mutual
noncomputable def V.decEq:(a b:V)->Decidable (a=b)
 | .none,.none=>Decidable.isTrue rfl
 | .bool a,.bool b=>if h:a=b then Decidable.isTrue (by rw [h])else Decidable.isFalse λe=>h (by injection e)
 | .int a,.int b=>if h:a=b then Decidable.isTrue (by rw [h])else Decidable.isFalse λe=>h (by injection e)
 | .str a,.str b=>if h:a=b then Decidable.isTrue (by rw [h])else Decidable.isFalse λe=>h (by injection e)
 | .ref a,.ref b=>if h:a=b then Decidable.isTrue (by rw [h])else Decidable.isFalse λe=>h (by injection e)
 | .tup a,.tup b=>match V.Gq a b with
  |Decidable.isTrue h=>Decidable.isTrue (by rw [h])
  |Decidable.isFalse h=>Decidable.isFalse λe=>h (by injection e)
 | .none,.bool _ | .none,.int _ | .none,.str _ | .none,.ref _ | .none,.tup _=>Decidable.isFalse nofun
 | .bool _,.none | .bool _,.int _ | .bool _,.str _ | .bool _,.ref _ | .bool _,.tup _=>Decidable.isFalse nofun
 | .int _,.none | .int _,.bool _ | .int _,.str _ | .int _,.ref _ | .int _,.tup _=>Decidable.isFalse nofun
 | .str _,.none | .str _,.bool _ | .str _,.int _ | .str _,.ref _ | .str _,.tup _=>Decidable.isFalse nofun
 | .ref _,.none | .ref _,.bool _ | .ref _,.int _ | .ref _,.str _ | .ref _,.tup _=>Decidable.isFalse nofun
 | .tup _,.none | .tup _,.bool _ | .tup _,.int _ | .tup _,.str _ | .tup _,.ref _=>Decidable.isFalse nofun
noncomputable def V.Gq:(a b:List V)->Decidable (a=b)
 | [],[]=>Decidable.isTrue rfl
 | [],_::_=>Decidable.isFalse nofun
 |_::_,[]=>Decidable.isFalse nofun
 |a::l,b::l'=>match V.decEq a b,V.Gq l l' with
  |Decidable.isTrue h,Decidable.isTrue h'=>Decidable.isTrue (by rw [h,h'])
  |Decidable.isFalse h,_=>Decidable.isFalse λe=>h (by injection e)
  |_,Decidable.isFalse h=>Decidable.isFalse λe=>h (by injection e)
end
instance:DecidableEq V:=V.decEq
inductive O where
 |list (xs:List V) |inst (c:Nat) (fs:List (Nat×V)) |dict (es:List (Nat×V)) |dU (es:List (List V×V)) |iw (xs:List V)
 deriving Inhabited
abbrev St:=List O
abbrev Loc:=List (Option V)
abbrev Slots:=List (Option (Str×NameKind))
set_option genInjectivity false
inductive uF where |add |sub |mod |fdiv |mul |band
inductive Be where |eq |ne |lt |gt |ge |le
mutual
inductive IE where
 |stuck |l (i:Nat) |t (v:V) |g (g:Nat) |neg (n:Nat)
 |attr (e:IE) (f:Nat) |call (f:Nat) (as:IL) |new (k:Nat) (as:IL) |kN (e:IE) (f:Nat) (as:IL)
 |append (e x:IE) |pop (e:IE) |extend (e x:IE)
 |len (e:IE) |sorted (e:IE) |yD (e:IE) |qz (e:IE)
 |bin (op:uF) (a b:IE) |cmp (op:Be) (a b:IE) |p_ (neg:Bool) (e:IE) |D0 (e t:IE)
 |dh (as:IL) |qP (as:IL) |ng (e:IE) |ite (c a b:IE)
 |sub (o i:IE) |Ni (o a:IE) |Nj (o b:IE) |Ox (o a b:IE)
 |list (as:IL) |tup (as:IL) |dict (ks:List Nat) (as:IL)
 |comp (elt:IE) (x:Nat) (it:II) (cond:IL)
inductive IL where |z |c (e:IE) (r:IL)
inductive II where |seq (e:IE) |range (as:IL) |rev (e:IE)
end
mutual
inductive IS where
 |a (i:Nat) (e:IE) |Lp (is:List Nat) (e:IE) |qU (o:IE) (f:Nat) (e:IE) |sN (o i e:IE) |aug (i:Nat) (op:uF) (e:IE)
 |ex (e:IE) |ret (e:IE) |AD |pass |ite (c:IE) (t f:IB) |gI (i:Nat) (it:II) (b:IB) |yv (is:List Nat) (it:II) (b:IB) |gz (c:IE) (b:IB)
inductive IB where |z |c (s:IS) (r:IB)
end
noncomputable abbrev IE.n i:=IE.t (.int i)
noncomputable abbrev IE.s i:=IE.t (.str i)
noncomputable abbrev IE.bf:=IE.t (.bool false)
noncomputable abbrev IE.bt:=IE.t (.bool true)
noncomputable abbrev IE.o:=IE.t .none
noncomputable abbrev IE.x i f:=IE.attr (.l i) f
noncomputable abbrev IE.lz:=IE.list .z
noncomputable abbrev IE.dn:=IE.dict [] .z
noncomputable abbrev IE.eq a b:=IE.cmp .eq a b
abbrev IE.q i k:=IE.eq (.l i) (.n k)
noncomputable abbrev IL.e a:=IL.c a .z
noncomputable abbrev IL.d a b:=IL.c a (.c b .z)
noncomputable abbrev IL.f a b c:=IL.c a (.c b (.c c .z))
noncomputable abbrev IL.r a b c d:=IL.c a (.c b (.c c (.c d .z)))
noncomputable abbrev IL.k a b r:=IL.c a (.c b r)
noncomputable abbrev IL.j a b c r:=IL.c a (.c b (.c c r))
noncomputable abbrev IL.q a b c d r:=IL.c a (.c b (.c c (.c d r)))
noncomputable abbrev IB.e a:=IB.c a .z
noncomputable abbrev IB.d a b:=IB.c a (.c b .z)
noncomputable abbrev IB.f a b c:=IB.c a (.c b (.c c .z))
noncomputable abbrev IB.r a b c d:=IB.c a (.c b (.c c (.c d .z)))
noncomputable abbrev IB.k a b r:=IB.c a (.c b r)
noncomputable abbrev IB.j a b c r:=IB.c a (.c b (.c c r))
noncomputable abbrev IB.q a b c d r:=IB.c a (.c b (.c c (.c d r)))
noncomputable abbrev IE.u f a:=IE.call f (.e a)
noncomputable abbrev IE.v f a b:=IE.call f (.d a b)
noncomputable abbrev IE.w f a b c:=IE.call f (.f a b c)
noncomputable abbrev IE.y f a b c d:=IE.call f (.r a b c d)
noncomputable abbrev IE.p a b:=IE.tup (.d a b)
noncomputable abbrev IS.x i f e:=IS.qU (.l i) f e
noncomputable abbrev IS.xd i f:=IS.qU (.l i) f .dn
noncomputable abbrev IS.i c t:=IS.ite c t .z
noncomputable abbrev IE.li i:=IE.list (.e (.l i))
noncomputable abbrev IE.S i f k:=IE.sub (.x i f) (.n k)
abbrev IE.V f i k:=IE.v f (.l i) (.n k)
abbrev IE.W f i k:=IE.v f (.l i) (.s k)
abbrev IE.L f i k:=IE.v f (.l i) (.l k)
noncomputable abbrev IE.M f i g s x a b:=IE.call f (.q (.l i) (.g g) (.s s) x (.d a b))
abbrev IE.N f i g s x a b:=IE.M f i g s x (.n a) (.n b)
abbrev IB.F:=IB.e (.ret .bf)
abbrev IB.P a b:=IB.e (.ex (.append a b))
abbrev IL.D a b:=IL.d (.n a) (.n b)
abbrev IS.X i f k:=IS.x i f (.l k)
@[reducible] noncomputable def dN(x:IB):=x
inductive Fl where |next |brk |cont |ret (v:V)
set_option genInjectivity false
noncomputable def Uy:List String:=["","kind","a","kids","flags","at","nid","sid","name","what","nodes","home","written","scope","tag","symbols","scopes","of_node","use","decl","diags","bound","tab","decls","number","args","file","rows","index","bounds","defaults","names","origins","renamed","shaping","putting","any","unknown","never","void","undefined","null","string","object","error","put","did","params","body","bases","static","extends_class","abstract","members","variances","busy","given","host","graph","namer","notes","exprs","stmts","sorts","types","declared","called","consts","sigs","bound_decls","inside","rets","chains","trail","later","late","targets","globals","loops","roots","inits","paired","got_by","under","drawn","lent","dropped","marks","owners","this_of","func_at","selves_of","rounds","callees","heads","banged","told_names","guesses","ready","const_enums","preset","asker","stops","judge","guard","roads","patterns","giver","funcs","places","deep","tell","fault","note","x","=","++","delete","X","p","f","c","&&","o","let","k","row","B","C","D"]
noncomputable def sn(n:Nat):Str:=Str.ofString (Uy.getD n "?")
noncomputable def Uz:List Addr:=[44,100,121,256,292,334,392,413,457,485,569,604,625,653,674,856]
noncomputable def ca(k:Nat):Addr:=Uz.getD k 0
noncomputable def Qi:List String:=["Node","Symbol","Bound","Diag","Diags","Notes","TypeTable","Decl","Guard","Roads","Judge","Patterns","Giver","Places","FuncRule","Sheet"]
noncomputable def UA:List Addr:=[41,55,62,69,76,83,97,118,132,137,142,149,154,161,166,171,246,253,275,282,310,317,375,389,410,503,475,692,755,762,776,898,905,910,917,931,938,943,949,961,968,975,982,989,996,1003,1010,1017,1024,1031,1038,1045,1052,1059,1066,1071,1076,1081,1086,1091]
noncomputable def pN(f:Nat):Addr:=UA.getD f 0
noncomputable def D5:List String:=["Node.__init__","flagged","has","bare","walk_nodes","number_nodes","Symbol.__init__","Bound.__init__","calls_class_node","own_ctors","stands_within","in_constructor","is_param_prop","ctor_with_body","param_props","stands_direct","Diag.__init__","Diag.row","Diags.__init__","Diags.put","Notes.__init__","Notes.put","TypeTable.__init__","TypeTable.put","Decl.__init__","Judge.__init__","Roads.__init__","Sheet.__init__","Sheet.fault","Sheet.tell","Sheet.note","returns_in","is_super_call","param_inits","super_calls","stands_top","has_inits","check_super","deeds_of","_law_take","_law_node","_law_name","_law_list","_law_block","_law_fold","_law_call","_law_func","_law_klass_node","_law_mark","_law_round_expr","_law_round_stmt","_law_path","_law_init","_law_pattern","_law_param","_law_nids","_law_kept","_law_inits_right","_law_told","law"]
noncomputable def SD:List Bool:=[true,false,false,false,false,false,true,true,false,false,false,false,false,false,false,false,true,true,true,true,true,true,true,true,true,true,true,true,true,true,true,false,false,false,false,false,false,false,false,false,false,false,false,false,false,false,false,false,false,false,false,false,false,false,false,false,false,false,false,false]
noncomputable def yX(f:Nat):Bool:=SD.getD f true
noncomputable def Lr:List String:=["K_PAREN","M_CLASS","K_CLASS","F_CTOR","K_FUNC","F_READONLY","F_PUBLIC","F_PROTECTED","F_PRIVATE","K_NAME","FIRST_ROWS","K_RETURN","K_SUPER","K_CALL","K_BIND","K_ARRPAT","K_OBJPAT","F_ARROW","K_EXPRST","F_STATIC","K_FIELD","U_FIELD","EFFECTS","K_UNARY","K_UPDATE","K_ASSIGN","_law_super","K_LIST","K_BLOCK","_law_arrow","_law_own","_law_border","_law_klass","_law_return","K_NUM","_law_deed","K_MEMBER","K_THIS","K_NEW","_law_open","F_EXPRBODY","K_PARAM","K_TPL","K_LOGIC","K_THROW","K_DECL","K_VAR","K_SPREAD","K_ARRAY","F_DECL","F_METHOD","K_IF","K_WHILE","K_TRY","K_CASE","K_SWITCH","F_REST","_law_base","K_FILE","D_CLASS"]
noncomputable def UB:List (V):=[.int 33,.int 6,.int 61,.int 256,.int 27,.int 131072,.int 65536,.int 32768,.int 16384,.int 8,.tup [.tup [.int 1,.str 36],.tup [.int 1,.str 37],.tup [.int 1,.str 38],.tup [.int 1,.str 39],.tup [.int 1,.str 40],.tup [.int 1,.str 41],.tup [.int 1,.str 42],.tup [.int 1,.str 24],.tup [.int 2,.int 0,.int 0],.tup [.int 2,.int 1,.int 0],.tup [.int 1,.str 43],.tup [.int 8,.tup [],.tup [],.tup [],.tup [],.tup [],.int 0],.tup [.int 6,.tup [.int 8,.int 9]],.tup [.int 1,.str 44],.tup [.int 2,.int 0,.int 1],.tup [.int 2,.int 1,.int 1]],.int 52,.int 10,.int 18,.int 36,.int 35,.int 34,.int 4,.int 43,.int 262144,.int 62,.int 12,.tup [.int 18,.int 19,.int 16,.int 17,.int 34,.int 35,.int 15],.int 21,.int 22,.int 25,.int 1,.int 71,.int 59,.tup [.bool false,.bool true,.bool false],.tup [.bool false,.bool false,.bool false],.int 4,.tup [.bool false,.bool false,.bool true],.int 3,.int 1,.int 2,.int 16,.int 9,.int 19,.tup [.bool true,.bool true,.bool true],.int 8,.int 28,.int 3,.int 24,.int 56,.int 42,.int 41,.int 15,.int 11,.int 16,.int 32,.int 44,.int 45,.int 57,.int 51,.int 50,.int 8192,.tup [.int 0,.int 1,.int 0,.int 0,.int 6,.int 2,.int 0,.int 0,.int 6,.int 1,.int 4,.int 1,.int 2,.int 1,.int 0,.int 0,.int 1,.int 0,.int 0,.int 3,.int 1,.int 3,.int 0,.int 1,.int 0,.int 0,.int 0,.int 0],.int 40,.int 1]
noncomputable def bU(g:Nat):V:=UB.getD g .none
def vX:bU 0= .int 33:=rfl
def Ai:bU 1= .int 6:=rfl
def kG:bU 2= .int 61:=rfl
def sY:bU 3= .int 256:=rfl
def jV:bU 4= .int 27:=rfl
def Eg:bU 5= .int 131072:=rfl
def Eh:bU 6= .int 65536:=rfl
def Mm:bU 7= .int 32768:=rfl
def Mn:bU 8= .int 16384:=rfl
def EW:bU 9= .int 8:=rfl
def Rk:bU 10= .tup [.tup [.int 1,.str 36],.tup [.int 1,.str 37],.tup [.int 1,.str 38],.tup [.int 1,.str 39],.tup [.int 1,.str 40],.tup [.int 1,.str 41],.tup [.int 1,.str 42],.tup [.int 1,.str 24],.tup [.int 2,.int 0,.int 0],.tup [.int 2,.int 1,.int 0],.tup [.int 1,.str 43],.tup [.int 8,.tup [],.tup [],.tup [],.tup [],.tup [],.int 0],.tup [.int 6,.tup [.int 8,.int 9]],.tup [.int 1,.str 44],.tup [.int 2,.int 0,.int 1],.tup [.int 2,.int 1,.int 1]]:=rfl
def wm:bU 11= .int 52:=rfl
def mD:bU 12= .int 10:=rfl
def vY:bU 13= .int 18:=rfl
def kC:bU 14= .int 36:=rfl
def Il:bU 15= .int 35:=rfl
def Bw:bU 16= .int 34:=rfl
def kH:bU 17= .int 4:=rfl
def rO:bU 18= .int 43:=rfl
def wV:bU 19= .int 262144:=rfl
def wU:bU 20= .int 62:=rfl
def BD:bU 21= .int 12:=rfl
def Ij:bU 22= .tup [.int 18,.int 19,.int 16,.int 17,.int 34,.int 35,.int 15]:=rfl
def Bv:bU 23= .int 21:=rfl
def Bu:bU 24= .int 22:=rfl
def Bt:bU 25= .int 25:=rfl
def jR:bU 26= .int 1:=rfl
def Rl:bU 27= .int 71:=rfl
def Rm:bU 28= .int 59:=rfl
def I8:bU 29= .tup [.bool false,.bool true,.bool false]:=rfl
def I9:bU 30= .tup [.bool false,.bool false,.bool false]:=rfl
def xh:bU 31= .int 4:=rfl
def I_:bU 32= .tup [.bool false,.bool false,.bool true]:=rfl
def xj:bU 33= .int 3:=rfl
def BI:bU 34= .int 1:=rfl
def gT:bU 35= .int 2:=rfl
def BP:bU 36= .int 16:=rfl
def Jt:bU 37= .int 9:=rfl
def Ju:bU 38= .int 19:=rfl
def rU:bU 39= .tup [.bool true,.bool true,.bool true]:=rfl
def Jy:bU 40= .int 8:=rfl
def Bj:bU 41= .int 28:=rfl
def Jw:bU 42= .int 3:=rfl
def Jx:bU 43= .int 24:=rfl
def Jz:bU 44= .int 56:=rfl
def JA:bU 45= .int 42:=rfl
def JB:bU 46= .int 41:=rfl
def JC:bU 47= .int 15:=rfl
def JD:bU 48= .int 11:=rfl
def rR:bU 49= .int 16:=rfl
def wZ:bU 50= .int 32:=rfl
def JE:bU 51= .int 44:=rfl
def JF:bU 52= .int 45:=rfl
def JG:bU 53= .int 57:=rfl
def JH:bU 54= .int 51:=rfl
def JI:bU 55= .int 50:=rfl
def Ia:bU 56= .int 8192:=rfl
def Rn:bU 57= .tup [.int 0,.int 1,.int 0,.int 0,.int 6,.int 2,.int 0,.int 0,.int 6,.int 1,.int 4,.int 1,.int 2,.int 1,.int 0,.int 0,.int 1,.int 0,.int 0,.int 3,.int 1,.int 3,.int 0,.int 1,.int 0,.int 0,.int 0,.int 0]:=rfl
def I4:bU 58= .int 40:=rfl
def I6:bU 59= .int 1:=rfl
noncomputable def cT(k:Nat):Option Nat:=match k with
 |0=>(some 0)
 |1=>(some 6)
 |2=>(some 7)
 |3=>(some 16)
 |4=>(some 18)
 |5=>(some 20)
 |6=>(some 22)
 |7=>(some 24)
 |8=>none
 |9=>(some 26)
 |10=>(some 25)
 |11=>none
 |12=>none
 |13=>none
 |14=>none
 |15=>(some 27)
 |_=>none
def QT:cT 0=(some 0):=rfl
def yQ:cT 1=(some 6):=rfl
def FT:cT 2=(some 7):=rfl
def QV:cT 3=(some 16):=rfl
def yP:cT 4=(some 18):=rfl
def FU:cT 5=(some 20):=rfl
def FP:cT 6=(some 22):=rfl
def FQ:cT 7=(some 24):=rfl
def QW:cT 8=none:=rfl
def QX:cT 9=(some 26):=rfl
def Oz:cT 10=(some 25):=rfl
def OA:cT 11=none:=rfl
def OB:cT 12=none:=rfl
def OC:cT 13=none:=rfl
def OD:cT 14=none:=rfl
def Dh:cT 15=(some 27):=rfl
noncomputable def fj(k f:Nat):Option Nat:=match k,f with
 |3,126=>some 17
 |4,45=>some 19
 |5,45=>some 21
 |6,45=>some 23
 |6,126=>some 999
 |11,31=>some 999
 |12,56=>some 999
 |15,112=>some 28
 |15,111=>some 29
 |15,113=>some 30
 |15,56=>some 999
 |_,_=>none
def Al:fj 3 126=some 17:=rfl
def CX:fj 4 45=some 19:=rfl
def CY:fj 5 45=some 21:=rfl
def C7:fj 6 45=some 23:=rfl
def Oj:fj 6 126=some 999:=rfl
def Ol:fj 11 31=some 999:=rfl
def Om:fj 12 56=some 999:=rfl
def lN:fj 15 112=some 28:=rfl
def yC:fj 15 111=some 29:=rfl
def yE:fj 15 113=some 30:=rfl
def Oo:fj 15 56=some 999:=rfl
def SQ:=dN (.q (.X 0 1 1) (.X 0 2 2) (.X 0 3 3) (.X 0 4 4) (.d (.X 0 5 5) (.x 0 6 (.n 0))))
def SR:=dN (.e (.ret (.new 0 (.q (.l 0) (.l 1) (.l 2) (.l 3) (.e (.l 4))))))
def RH:=dN (.e (.ret (.cmp .ne (.bin .band (.x 0 4) (.l 1)) (.n 0))))
def SW:=dN (.d (.gz (.eq (.x 0 1) (.g 0)) (.e (.a 0 (.S 0 3 0)))) (.ret (.l 0)))
def RQ:=dN (.f (.a 2 (.l 1)) (.gI 3 (.seq (.u 4 (.l 0))) (.d (.X 3 6 2) (.aug 2 .add (.n 1)))) (.ret (.l 2)))
def Tc:=dN (.q (.X 0 7 1) (.X 0 8 2) (.X 0 9 3) (.x 0 10 (.li 4)) (.r (.X 0 11 6) (.x 0 12 (.n 0)) (.X 0 13 5) (.x 0 14 (.n 0))))
def S_:=dN (.q (.x 0 15 (.list (.e .o))) (.x 0 16 .lz) (.xd 0 17) (.xd 0 18) (.d (.xd 0 19) (.X 0 20 1)))
def RV:=dN (.e (.ret (.comp (.l 1) 1 (.seq (.attr (.S 0 3 4) 3)) (.e (.dh (.d (.eq (.x 1 1) (.g 4)) (.v 2 (.l 1) (.g 3))))))))
def Mw:=dN (.r (.a 3 (.L 8 0 1)) (.i (.p_ false (.l 3)) (.e (.ret .bt))) (.gI 4 (.seq (.u 9 (.l 3))) (.e (.i (.L 10 4 2) (.e (.ret .bt))))) (.ret .bf))
def Ml:=dN (.d (.a 1 (.tup (.r (.g 8) (.g 7) (.g 6) (.g 5)))) (.ret (.dh (.d (.eq (.attr (.S 0 3 0) 1) (.g 9)) (.yD (.comp (.L 2 0 2) 2 (.seq (.l 1)) .z))))))
def Mj:=dN (.d (.gI 1 (.seq (.u 9 (.l 0))) (.e (.i (.p_ true (.S 1 3 3)) (.e (.ret (.l 1)))))) (.ret .o))
def Mp:=dN (.f (.a 1 (.u 13 (.l 0))) (.i (.p_ false (.l 1)) (.e (.ret .lz))) (.ret (.comp (.l 2) 2 (.seq (.attr (.S 1 3 1) 3)) (.e (.u 12 (.l 2))))))
def Px:=dN (.r (.X 0 24 1) (.X 0 5 2) (.X 0 25 3) (.X 0 26 4))
def PE:=dN (.e (.ret (.tup (.f (.x 0 24) (.x 0 5) (.x 0 25)))))
def MG:=dN (.d (.x 0 27 .lz) (.X 0 26 1))
def Py:=dN (.P (.x 0 27) (.new 3 (.r (.l 1) (.l 2) (.l 3) (.x 0 26))))
def MH:=dN (.e (.x 0 27 .lz))
def PC:=dN (.P (.x 0 27) (.p (.l 1) (.l 2)))
def MO:=dN (.q (.x 0 27 .lz) (.xd 0 28) (.x 0 23 (.list (.e .o))) (.x 0 29 .lz) (.q (.x 0 30 .lz) (.x 0 31 .lz) (.xd 0 32) (.xd 0 33) (.f (.x 0 34 (.n 0)) (.x 0 35 (.n 0)) (.gI 1 (.seq (.g 10)) (.e (.ex (.kN (.l 0) 45 (.e (.l 1)))))))))
def MN:=dN (.q (.i (.D0 (.l 1) (.x 0 28)) (.e (.ret (.sub (.x 0 28) (.l 1))))) (.a 2 (.len (.x 0 27))) (.ex (.append (.x 0 27) (.l 1))) (.sN (.x 0 28) (.l 1) (.l 2)) (.e (.ret (.l 2))))
def MI:=dN (.q (.X 0 46 1) (.X 0 1 2) (.X 0 8 3) (.x 0 47 (.tup .z)) (.q (.x 0 48 (.neg 1)) (.x 0 49 (.tup .z)) (.x 0 50 (.neg 1)) (.x 0 51 (.n 0)) (.q (.x 0 52 .bf) (.x 0 53 .lz) (.x 0 54 .lz) (.x 0 55 (.n 0)) (.f (.x 0 5 (.n 0)) (.x 0 26 (.s 0)) (.x 0 6 (.n 0))))))
def SG:=dN (.e (.xd 0 56))
def SH:=dN (.e (.xd 0 56))
def PA:=dN (.e (.ex (.kN (.l 0) 111 (.f (.l 1) (.x 2 5) (.l 3)))))
def Pz:=dN (.d (.gI 4 (.seq (.attr (.x 0 20) 27)) (.e (.i (.dh (.f (.eq (.x 4 24) (.l 1)) (.eq (.x 4 5) (.l 2)) (.eq (.x 4 25) (.l 3)))) (.e .AD)))) (.ex (.kN (.x 0 20) 45 (.f (.l 1) (.l 2) (.l 3)))))
def PB:=dN (.e (.ex (.kN (.x 0 60) 45 (.d (.l 1) (.x 2 5)))))
def Ek:=dN (.e (.ret (.dh (.d (.eq (.x 0 1) (.g 13)) (.eq (.attr (.u 3 (.S 0 3 0)) 1) (.g 12))))))
def Mu:=dN (.d (.gI 2 (.seq (.x 0 3)) (.e (.i (.dh (.d (.eq (.x 2 1) (.g 18)) (.eq (.attr (.u 3 (.S 2 3 0)) 6) (.x 1 6)))) (.e (.ret .bt))))) (.ret .bf))
def Mr:=dN (.d (.gI 1 (.seq (.attr (.S 0 3 4) 3)) (.e (.i (.dh (.f (.eq (.x 1 1) (.g 20)) (.ng (.v 2 (.l 1) (.g 19))) (.p_ true (.S 1 3 1)))) (.e (.ret .bt))))) (.ret (.cmp .gt (.len (.u 14 (.l 0))) (.n 0))))
def H9:=dN (.d (.i (.eq (.len (.l 0)) (.n 0)) (.e (.ret (.n 0)))) (.ret (.bin .mod (.pop (.l 0)) (.l 1))))
def Ph:=dN (.r (.sN (.l 0) (.s 5) (.bin .add (.sub (.l 0) (.s 5)) (.n 1))) (.a 6 (.call 1 (.q (.l 1) (.l 2) (.l 3) (.l 4) (.e (.sub (.l 0) (.s 5)))))) (.i (.cmp .gt (.l 5) (.n 0)) (.P (.sub (.l 0) (.s 87)) (.list (.q (.l 6) (.l 5) .bt .bt (.d .bt (.eq (.l 5) (.g 26))))))) (.ret (.l 6)))
def MB:=dN (.e (.ret (.call 40 (.q (.l 0) (.g 9) (.l 1) .lz (.D 0 0)))))
def PF:=dN (.e (.ret (.N 40 0 27 0 (.l 1) 0 0)))
def PG:=dN (.e (.ret (.N 40 0 28 0 (.l 1) 0 0)))
def MD:=dN (.e (.ret (.M 40 0 13 0 (.list (.f (.l 1) (.L 42 0 2) .o)) (.n 0) (.l 3))))
def MW:=dN (.f (.ex (.y 44 (.l 0) (.l 1) (.g 32) .bf)) (.a 4 (.list (.q .o (.l 2) .o (.v 42 (.l 0) .lz) (.e (.L 42 0 3))))) (.ret (.M 40 0 2 0 (.l 4) (.n 0) (.g 31))))
def Na:=dN (.q (.a 2 (.V 39 0 9)) (.i (.q 2 4) (.e (.ret (.p (.M 40 1 11 0 (.list (.e .o)) (.n 0) (.g 33)) .bt)))) (.i (.q 2 5) (.d (.a 5 (.list (.d (.W 41 1 114) (.call 40 (.q (.l 1) (.g 34) (.n 1) .lz (.D 0 0)))))) (.ret (.p (.M 40 1 25 115 (.l 5) (.n 0) (.g 35)) .bf)))) (.i (.q 2 6) (.e (.ret (.p (.M 40 1 24 116 (.list (.e (.W 41 1 114))) (.n 0) (.g 35)) .bf)))) (.q (.i (.q 2 7) (.d (.a 6 (.M 40 1 36 2 (.list (.e (.W 41 1 114))) (.n 0) (.g 35))) (.ret (.p (.M 40 1 23 117 (.li 6) (.n 0) (.g 35)) .bf)))) (.i (.q 2 8) (.d (.a 4 (.v 42 (.l 1) (.list (.e (.M 40 1 37 0 .lz (.n 0) (.g 31)))))) (.ret (.p (.M 40 1 38 0 (.list (.f (.W 41 1 118) (.l 4) .o)) (.n 0) (.g 35)) .bf)))) (.a 3 (.N 40 1 12 0 .lz 0 0)) (.i (.q 2 2) (.e (.ret (.p (.y 45 (.l 1) (.M 40 1 36 114 (.li 3) (.n 0) (.g 35)) .lz (.g 35)) .bf)))) (.r (.i (.q 2 1) (.e (.a 3 (.N 40 1 0 0 (.li 3) 0 0)))) (.a 4 .lz) (.i (.q 2 3) (.f (.a 7 (.len (.sub (.l 1) (.s 87)))) (.a 4 (.list (.e (.y 45 (.l 1) (.N 40 1 12 0 .lz 0 0) .lz (.g 26))))) (.ex (.y 44 (.l 1) (.l 7) (.g 39) .bf)))) (.ret (.p (.y 45 (.l 1) (.l 3) (.l 4) (.g 26)) .bf)))))
def Qc:=dN (.q (.a 4 (.V 39 0 13)) (.i (.qP (.d (.q 4 0) (.q 4 8))) (.d (.ex (.y 44 (.l 1) (.l 2) (.g 39) .bt)) (.ret (.p (.call 40 (.q (.l 1) (.sub (.p (.g 0) (.g 18)) (.bin .fdiv (.l 4) (.n 8))) (.s 0) (.li 3) (.D 0 0))) (.q 4 8))))) (.i (.q 4 4) (.e (.ret (.p (.call 46 (.q (.l 1) (.l 2) .lz (.l 3) (.e (.bin .add (.g 17) (.g 40))))) .bf)))) (.i (.q 4 5) (.d (.a 5 (.N 40 1 41 0 (.list (.f (.W 41 1 119) .o (.l 3))) 0 0)) (.ret (.p (.call 46 (.q (.l 1) (.l 2) (.li 5) (.v 43 (.l 1) .lz) (.e (.bin .mul (.g 17) (.V 39 0 2))))) .bf)))) (.q (.i (.q 4 6) (.d (.a 6 (.M 40 1 20 114 (.list (.d .o (.l 3))) (.bin .mul (.g 19) (.V 39 0 2)) (.n 0))) (.ret (.p (.y 47 (.l 1) (.l 2) .o (.li 6)) .bf)))) (.i (.q 4 7) (.e (.ret (.p (.y 47 (.l 1) (.l 2) (.l 3) .lz) .bf)))) (.ex (.y 44 (.l 1) (.l 2) (.g 39) .bf)) (.i (.q 4 1) (.e (.ret (.p (.y 45 (.l 1) (.W 41 1 120) (.li 3) (.g 35)) .bf)))) (.q (.i (.q 4 2) (.e (.ret (.p (.call 40 (.q (.l 1) (.g 42) (.p (.s 0) (.s 0)) (.li 3) (.D 0 0))) .bf)))) (.i (.q 4 3) (.e (.ret (.p (.N 40 1 43 122 (.list (.d (.W 41 1 121) (.l 3))) 0 0) .bf)))) (.i (.q 4 9) (.e (.ret (.p (.M 40 1 11 0 (.li 3) (.n 0) (.g 33)) .bt)))) (.i (.q 4 10) (.e (.ret (.p (.N 40 1 44 0 (.li 3) 0 0) .bt)))) (.d (.i (.q 4 11) (.r (.a 7 (.N 40 1 14 2 (.list (.d (.W 41 1 2) (.l 3))) 0 0)) (.a 8 (.M 40 1 16 0 (.li 7) (.n 0) (.g 35))) (.a 9 (.N 40 1 45 0 (.list (.f (.l 8) .o (.W 41 1 123))) 0 0)) (.ret (.p (.N 40 1 46 124 (.li 9) 0 0) .bt)))) (.ret (.p (.N 40 1 48 0 (.list (.e (.M 40 1 47 0 (.li 3) (.n 0) (.g 35)))) 0 0) .bf))))))
def Qd:=dN (.q (.a 4 (.V 39 0 10)) (.i (.q 4 5) (.e (.ret (.p (.call 46 (.q (.l 1) (.l 2) .lz (.v 43 (.l 1) (.li 3)) (.e (.g 17)))) .bf)))) (.i (.qP (.d (.q 4 6) (.q 4 9))) (.e (.ret (.p (.call 46 (.q (.l 1) (.l 2) .lz (.v 43 (.l 1) (.li 3)) (.e (.ite (.q 4 9) (.g 49) (.n 0))))) (.q 4 9))))) (.i (.qP (.d (.q 4 7) (.q 4 8))) (.d (.a 6 (.call 46 (.q (.l 1) (.l 2) .lz (.v 43 (.l 1) (.li 3)) (.e (.sub (.p (.g 50) (.g 3)) (.bin .sub (.l 4) (.n 7))))))) (.ret (.p (.y 47 (.l 1) (.l 2) .o (.li 6)) .bf)))) (.q (.ex (.y 44 (.l 1) (.l 2) (.g 39) .bf)) (.i (.q 4 0) (.e (.ret (.p (.v 43 (.l 1) (.li 3)) .bt)))) (.i (.q 4 1) (.e (.ret (.p (.N 40 1 51 0 (.list (.f (.W 41 1 121) (.l 3) .o)) 0 0) .bt)))) (.i (.q 4 2) (.e (.ret (.p (.N 40 1 52 0 (.list (.d (.W 41 1 121) (.l 3))) 0 0) .bt)))) (.f (.i (.q 4 3) (.e (.ret (.p (.N 40 1 53 0 (.list (.f (.v 43 (.l 1) .lz) .o (.v 43 (.l 1) (.li 3)))) 0 0) .bt)))) (.a 5 (.N 40 1 54 0 (.list (.d .o (.l 3))) 0 0)) (.ret (.p (.N 40 1 55 0 (.list (.d (.W 41 1 121) (.l 5))) 0 0) .bt)))))
def Ng:=dN (.q (.i (.cmp .ne (.V 39 0 3) (.n 1)) (.e (.ret .o))) (.a 3 (.len (.sub (.l 1) (.s 87)))) (.a 4 (.w 51 (.l 0) (.l 1) .bf)) (.ex (.append (.l 2) (.tup (.f (.l 4) (.l 3) (.len (.sub (.l 1) (.s 87))))))) (.e (.ret (.l 4))))
def LV:=dN (.q (.a 2 .lz) (.a 3 (.sub (.tup (.r (.n 0) (.n 0) (.g 6) (.g 5))) (.V 39 0 4))) (.a 4 (.y 53 (.l 0) (.l 1) (.l 2) (.n 2))) (.a 5 (.w 52 (.l 0) (.l 1) (.l 2))) (.d (.a 6 (.dh (.d (.cmp .gt (.l 3) (.n 0)) (.eq (.x 4 1) (.g 9))))) (.ret (.tup (.r (.M 40 1 41 0 (.list (.f (.l 4) .o (.l 5))) (.l 3) (.n 0)) (.l 2) (.l 5) (.l 6))))))
def Mc:=dN (.e (.ret (.comp (.x 1 6) 1 (.seq (.l 0)) .z)))
def Me:=dN (.e (.ret (.sorted (.comp (.attr (.sub (.l 3) (.n 0)) 6) 3 (.seq (.l 0)) (.e (.dh (.d (.D0 (.sub (.l 3) (.n 1)) (.l 1)) (.sub (.l 3) (.l 2)))))))))
def Eb:=dN (.d (.a 7 (.V 39 0 5)) (.ite (.dh (.d (.q 7 3) (.cmp .gt (.l 4) (.n 2)))) (.P (.l 5) .o) (.e (.ite (.q 7 4) (.P (.l 5) (.M 40 1 14 0 (.list (.d (.W 41 1 119) .o)) (.g 56) (.n 0))) (.d (.a 8 (.y 53 (.l 0) (.l 1) (.l 2) (.bin .sub (.l 3) (.n 1)))) (.ex (.append (.l 5) (.call 40 (.q (.l 1) (.g 14) (.ite (.cmp .lt (.l 4) (.n 3)) (.s 125) (.s 0)) (.list (.d (.l 8) (.w 52 (.l 0) (.l 1) (.l 2)))) (.D 0 0))))))))))
def CF:=dN (.e (.i (.p_ true (.l 4)) (.P (.l 2) (.l 4))))
def RJ:=dN (.f (.a 3 (.pop (.l 2))) (.i (.eq (.x 3 6) (.l 1)) (.e (.ret .bt))) (.i (.dh (.d (.cmp .ne (.x 3 1) (.g 4)) (.cmp .ne (.x 3 1) (.g 2)))) (.e (.ex (.extend (.l 2) (.comp (.l 4) 4 (.seq (.x 3 3)) (.e (.p_ true (.l 4)))))))))
def RK:=dN (.f (.a 3 (.pop (.l 2))) (.i (.eq (.x 3 6) (.l 1)) (.e (.ret .bt))) (.i (.dh (.d (.cmp .ne (.x 3 1) (.g 2)) (.cmp .ne (.x 3 1) (.g 4)))) (.e (.gI 4 (.seq (.x 3 3)) CF))))
def Ew:=dN (.f (.a 3 (.pop (.l 2))) (.i (.u 32 (.l 3)) (.P (.l 1) (.l 3))) (.i (.dh (.d (.cmp .ne (.x 3 1) (.g 2)) (.qP (.d (.cmp .ne (.x 3 1) (.g 4)) (.v 2 (.l 3) (.g 17)))))) (.e (.gI 4 (.rev (.x 3 3)) CF))))
def L1:=dN (.d (.a 3 (.pop (.l 2))) (.ite (.eq (.x 3 1) (.g 11)) (.P (.l 1) (.l 3)) (.e (.i (.dh (.d (.cmp .ne (.x 3 1) (.g 4)) (.cmp .ne (.x 3 1) (.g 2)))) (.e (.gI 4 (.rev (.x 3 3)) CF))))))
def Ii:=dN (.f (.a 3 (.pop (.l 2))) (.i (.qP (.d (.D0 (.x 3 1) (.tup (.f (.g 25) (.g 24) (.g 23)))) (.D0 (.x 3 1) (.g 22)))) (.P (.l 1) (.l 3))) (.i (.cmp .ne (.x 3 1) (.g 4)) (.e (.ex (.extend (.l 2) (.comp (.l 4) 4 (.seq (.x 3 3)) (.e (.p_ true (.l 4)))))))))
def Q6:=dN (.f (.a 5 (.sub (.x 3 3) (.l 4))) (.i (.p_ true (.l 5)) (.P (.l 2) (.l 5))) (.aug 4 .sub (.n 1)))
def RO:=dN (.r (.a 3 (.pop (.l 2))) (.ex (.append (.l 1) (.l 3))) (.a 4 (.bin .sub (.len (.x 3 3)) (.n 1))) (.gz (.cmp .ge (.l 4) (.n 0)) Q6))
def EE:=dN (.f (.a 3 (.pop (.l 2))) (.i (.dh (.d (.eq (.x 3 1) (.g 14)) (.p_ true (.S 3 3 1)))) (.P (.l 1) (.S 3 3 1))) (.ite (.eq (.x 3 1) (.g 14)) (.P (.l 2) (.S 3 3 0)) (.e (.i (.D0 (.x 3 1) (.p (.g 16) (.g 15))) (.e (.ex (.extend (.l 2) (.comp (.l 4) 4 (.seq (.x 3 3)) (.e (.p_ true (.l 4)))))))))))
def Q8:=dN (.f (.a 8 (.Ox (.l 0) (.l 6) (.l 7))) (.i (.cmp .ne (.u 55 (.u 34 (.l 5))) (.w 56 (.l 8) (.tup (.e (.g 26))) (.n 3))) .F) (.i (.cmp .ne (.sorted (.u 55 (.u 38 (.l 5)))) (.w 56 (.l 8) (.p (.g 26) (.g 35)) (.n 4))) .F))
def SY:=dN (.e (.i (.dh (.d (.eq (.x 3 1) (.g 2)) (.eq (.x 3 6) (.attr (.sub (.attr (.x 0 22) 23) (.l 1)) 6)))) (.e (.ret (.l 3)))))
def Pu:=dN (.e (.i (.dh (.d (.p_ true (.l 2)) (.eq (.x 2 9) (.g 1)))) (.e (.gI 3 (.seq (.x 2 10)) SY))))
def R0:=dN (.e (.gI 6 (.seq (.u 34 (.l 5))) (.e (.ex (.kN (.l 0) 112 (.f (.n 2336) (.l 6) (.tup .z)))))))
def R1:=dN (.e (.gI 5 (.seq (.u 33 (.l 3))) R0))
def IM:=dN (.f (.i (.ng (.l 4)) (.d (.ex (.kN (.l 0) 112 (.f (.n 2377) (.l 2) (.tup .z)))) .AD)) (.i (.dh (.d (.u 36 (.l 1)) (.ng (.yD (.comp (.v 35 (.S 2 3 3) (.l 8)) 8 (.seq (.l 4)) .z))))) (.e (.ex (.kN (.l 0) 112 (.f (.n 2376) (.l 2) (.tup .z)))))) (.i (.dh (.d (.p_ true (.x 0 58)) .stuck)) (.e (.ex (.kN (.l 0) 113 (.d (.g 21) (.l 2)))))))
def E6:=dN (.d (.a 9 (.comp (.kN (.l 14) 126 .z) 14 (.seq (.attr (.x 0 20) 27)) .z)) (.ret (.dh (.d (.eq (.sorted (.l 9)) (.sorted (.l 6))) (.eq (.attr (.x 0 60) 27) (.l 8))))))
def E9:=dN (.c (.ite (.eq (.len (.comp (.l 12) 12 (.seq (.l 7)) (.e (.sub (.l 12) (.n 2))))) (.n 0)) (.e (.a 6 (.bin .add (.l 6) (.list (.e (.tup (.f (.n 2377) (.x 2 5) (.tup .z)))))))) (.e (.i (.dh (.d (.l 5) (.eq (.len (.comp (.l 13) 13 (.seq (.l 7)) (.e (.sub (.l 13) (.n 5))))) (.n 0)))) (.e (.a 6 (.bin .add (.l 6) (.list (.e (.tup (.f (.n 2376) (.x 2 5) (.tup .z))))))))))) E6)
def foldI:=dN (.e (.sN (.l 4) (.bin .add (.n 2) (.l 5)) (.dh (.d (.sub (.l 4) (.bin .add (.n 2) (.l 5))) (.sub (.l 2) (.l 5))))))
def BF:=dN (.d (.gI 5 (.range (.e (.n 3))) foldI) (.sN (.l 4) (.n 5) (.dh (.d (.sub (.l 4) (.n 5)) (.l 3)))))
def Ao:=dN (.q (.xd 0 61) (.xd 0 62) (.xd 0 63) (.xd 0 64) (.q (.xd 0 65) (.xd 0 55) (.xd 0 66) (.xd 0 67) (.q (.xd 0 68) (.xd 0 69) (.x 0 70 .lz) (.x 0 71 .lz) (.q (.x 0 72 .lz) (.x 0 73 .lz) (.x 0 74 .lz) (.x 0 75 .lz) (.q (.xd 0 76) (.xd 0 77) (.xd 0 78) (.xd 0 79) (.q (.xd 0 80) (.xd 0 81) (.xd 0 82) (.xd 0 83) (.q (.xd 0 84) (.xd 0 85) (.xd 0 86) (.xd 0 87) (.q (.xd 0 88) (.xd 0 89) (.xd 0 90) (.xd 0 91) (.q (.xd 0 92) (.xd 0 93) (.xd 0 94) (.xd 0 95) (.q (.xd 0 96) (.xd 0 97) (.x 0 98 (.n 0)) (.xd 0 99) (.q (.xd 0 100) (.x 0 101 .o) (.x 0 102 .o) (.x 0 103 (.new 10 .z)) (.q (.x 0 104 (.new 8 .z)) (.x 0 105 (.new 9 .z)) (.x 0 106 (.new 11 .z)) (.x 0 107 (.new 12 .z)) (.f (.x 0 108 (.new 14 .z)) (.x 0 109 (.new 13 .z)) (.x 0 110 (.n 0)))))))))))))))
def PT:=dN (.e (.ite (.eq (.l 14) (.l 6)) (.P (.l 13) (.l 12)) (.e (.i (.eq (.V 39 1 2) (.n 1)) (.P (.l 13) (.M 40 2 4 0 (.list (.r .o (.v 42 (.l 2) .lz) .o .o)) (.g 3) (.n 0)))))))
def M3:=dN (.e (.i (.ng (.y 57 (.l 8) (.l 28) (.l 29) (.l 30))) .F))
def Jq:=dN (.f (.yv [28,29,30,31] (.seq (.l 7)) M3) (.a 24 (.qP (.d (.q 5 1) (.dh (.d (.l 3) (.cmp .gt (.len (.comp (.l 36) 36 (.seq (.l 7)) (.e (.sub (.l 36) (.n 3))))) (.n 0))))))) (.ret (.call 58 (.q (.l 21) (.l 16) (.l 12) (.Nj (.l 8) (.l 9)) (.d (.l 23) (.l 24))))))
def Jo:=dN (.q (.i (.qP (.f (.ng (.v 15 (.l 11) (.x 11 6))) (.v 10 (.l 12) (.x 12 6)) (.cmp .gt (.len (.u 34 (.l 12))) (.n 0)))) .F) (.a 23 (.Ni (.l 8) (.l 9))) (.i (.cmp .ne (.u 55 (.u 34 (.l 11))) (.w 56 (.l 23) (.tup (.e (.g 26))) (.n 3))) .F) (.i (.cmp .ne (.u 55 (.u 31 (.l 11))) (.w 56 (.l 23) (.tup (.e (.g 33))) (.n 2))) .F) (.c (.i (.cmp .ne (.sorted (.u 55 (.u 38 (.l 11)))) (.w 56 (.l 23) (.p (.g 26) (.g 35)) (.n 4))) .F) Jq))
def FO:=dN (.k (.a 22 (.bin .add (.n 1) (.bin .fdiv (.len (.l 8)) (.n 4)))) (.gI 14 (.range (.f (.bin .mod (.bin .add (.l 6) (.bin .fdiv (.l 22) (.n 2))) (.l 22)) (.len (.l 8)) (.l 22))) (.q (.a 26 (.sub (.l 8) (.l 14))) (.a 27 (.attr (.sub (.l 26) (.n 0)) 6)) (.i (.qP (.d (.cmp .ne (.L 15 11 27) (.dh (.d (.cmp .ge (.l 14) (.l 9)) (.sub (.l 26) (.n 2))))) (.cmp .ne (.L 10 12 27) (.sub (.l 26) (.n 2))))) .F) (.i (.cmp .ne (.w 11 (.l 21) (.n 1) (.l 27)) (.qP (.d (.ng (.l 4)) (.dh (.d (.l 3) (.sub (.l 26) (.n 2))))))) .F) (.e (.i (.cmp .ne (.u 32 (.sub (.l 26) (.n 0))) (.eq (.sub (.l 26) (.n 1)) (.g 26))) .F)))) Jo)
def C_:=dN (.q (.a 18 (.new 6 .z)) (.a 19 (.new 7 (.f (.n 1) (.g 59) (.s 128)))) (.x 19 6 (.x 16 6)) (.ex (.append (.x 18 23) (.l 19))) (.q (.a 20 (.new 2 (.e (.new 4 .z)))) (.ex (.append (.x 20 15) (.new 1 (.q (.n 1) (.s 129) (.g 1) (.l 17) (.D 0 0))))) (.i (.l 4) (.P (.x 20 15) (.new 1 (.q (.n 2) (.s 128) (.g 1) (.l 16) (.D 0 0))))) (.a 21 (.new 15 (.q (.l 18) .o (.l 20) .o (.f .o (.new 4 .z) (.new 5 .z))))) FO))
def I3:=dN (.q (.a 13 .lz) (.gI 14 (.range (.e (.n 3))) (.e (.ite (.eq (.l 14) (.l 6)) (.P (.l 13) (.l 12)) (.e (.i (.eq (.V 39 1 2) (.n 1)) (.P (.l 13) (.M 40 2 4 0 (.list (.r .o (.v 42 (.l 2) .lz) .o .o)) (.g 3) (.n 0)))))))) (.i (.cmp .gt (.l 5) (.n 0)) (.d (.a 25 (.call 40 (.q (.l 2) (.g 34) (.n 1) .lz (.D 0 0)))) (.ex (.append (.l 13) (.M 40 2 20 114 (.list (.d .o (.l 25))) (.bin .mul (.g 19) (.bin .sub (.l 5) (.n 1))) (.n 0)))))) (.a 15 (.list (.q .o (.W 41 2 127) .o (.v 42 (.l 2) .lz) (.e (.L 42 2 13))))) (.j (.a 16 (.M 40 2 2 128 (.l 15) (.g 49) (.n 0))) (.a 17 (.M 40 2 2 129 (.list (.q .o .o .o (.v 42 (.l 2) .lz) (.e (.v 42 (.l 2) .lz)))) (.g 49) (.n 0))) (.ex (.v 5 (.N 40 2 58 0 (.list (.d (.l 17) (.l 16))) 0 0) (.n 1))) C_))
def FG:=dN (.q (.a 7 (.comp (.L 54 1 2) 33 (.range (.e (.V 39 1 3))) .z)) (.a 8 (.sub (.l 2) (.s 87))) (.a 9 (.len (.l 8))) (.a 10 (.comp (.w 51 (.l 1) (.l 2) .bt) 34 (.range (.e (.bin .add (.n 1) (.V 39 1 3)))) .z)) (.k (.a 11 (.L 43 2 10)) (.a 12 (.M 40 2 4 0 (.list (.r .o (.v 42 (.l 2) (.comp (.sub (.l 35) (.n 0)) 35 (.seq (.l 7)) .z)) .o (.l 11))) (.ite (.l 3) (.g 3) (.g 50)) (.n 0))) I3))
def F5:=dN (.q (.a 26 (.sub (.l 8) (.l 14))) (.a 27 (.attr (.sub (.l 26) (.n 0)) 6)) (.i (.qP (.d (.cmp .ne (.L 15 11 27) (.dh (.d (.cmp .ge (.l 14) (.l 9)) (.sub (.l 26) (.n 2))))) (.cmp .ne (.L 10 12 27) (.sub (.l 26) (.n 2))))) .F) (.i (.cmp .ne (.w 11 (.l 21) (.n 1) (.l 27)) (.qP (.d (.ng (.l 4)) (.dh (.d (.l 3) (.sub (.l 26) (.n 2))))))) .F) (.e (.i (.cmp .ne (.u 32 (.sub (.l 26) (.n 0))) (.eq (.sub (.l 26) (.n 1)) (.g 26))) .F)))
def Gl:=dN (.e (.ite (.l 6) (.e (.Lp [5,6] (.y 50 (.l 0) (.l 1) (.l 3) (.l 5)))) (.e (.Lp [5,6] (.y 49 (.l 0) (.l 1) (.l 3) (.l 5))))))
def MR:=dN (.q (.a 1 (.bin .add (.qz (.g 57)) (.comp (.l 32) 32 (.rev (.Nj (.l 0) (.n 28))) .z))) (.a 2 (.dict [5,87] (.d (.n 0) .lz))) (.a 3 (.cmp .lt (.V 39 1 4) (.n 3))) (.a 4 (.cmp .lt (.V 39 1 5) (.n 4))) (.k (.a 5 (.V 39 1 3)) (.a 6 (.V 39 1 3)) FG))
def Mh:=dN (.r (.a 4 (.u 55 (.u 33 (.l 1)))) (.i (.qP (.d (.cmp .ne (.sorted (.l 4)) (.sorted (.u 55 (.comp (.sub (.l 9) (.n 0)) 9 (.seq (.l 2)) .z)))) (.dh (.d (.p_ true (.l 3)) (.cmp .ne (.sub (.l 4) (.neg 1)) (.x 3 6)))))) .F) (.yv [5,6,7] (.seq (.l 2)) Q8) (.ret .bt))
def Ma:=dN (.q (.a 1 .lz) (.a 2 (.list (.e (.S 0 3 0)))) (.gz (.l 2) EE) (.i (.p_ true (.S 0 3 2)) (.P (.l 1) (.S 0 3 2))) (.e (.ret (.l 1))))
def LY:=dN (.f (.a 2 (.li 0)) (.gz (.l 2) RJ) (.ret .bf))
def L3:=dN (.r (.a 1 .lz) (.a 2 (.li 0)) (.gz (.l 2) L1) (.ret (.l 1)))
def L5:=dN (.r (.a 1 .lz) (.a 2 (.li 0)) (.gz (.l 2) Ii) (.ret (.l 1)))
def Ib:=dN (.q (.a 4 (.ite (.cmp .gt (.l 3) (.n 0)) (.V 39 0 5) (.n 0))) (.i (.q 4 0) (.e (.ret (.W 41 1 119)))) (.a 5 .lz) (.gI 6 (.range (.e (.bin .add (.n 1) (.V 39 0 2)))) Eb) (.e (.ret (.call 40 (.q (.l 1) (.ite (.cmp .lt (.l 4) (.n 3)) (.g 16) (.g 15)) (.s 0) (.l 5) (.D 0 0))))))
def MK:=dN (.q (.X 0 22 1) (.X 0 57 2) (.X 0 21 3) (.X 0 58 4) (.j (.X 0 59 5) (.X 0 20 6) (.X 0 60 7) Ao))
def MV:=dN (.d (.ex (.y 44 (.l 0) (.l 1) (.ite (.cmp .gt (.bin .band (.l 4) (.g 17)) (.n 0)) (.g 29) (.g 30)) .bf)) (.ret (.M 40 0 4 0 (.list (.r .o (.L 42 0 2) .o (.l 3))) (.l 4) (.g 31))))
def Ex:=dN (.r (.a 1 .lz) (.a 2 (.li 0)) (.gz (.l 2) Ew) (.ret (.l 1)))
def RX:=dN (.d (.gI 2 (.seq (.attr (.x 0 21) 15)) Pu) (.ret .o))
def MF:=dN (.e (.gI 4 (.seq (.Ni (.sub (.l 0) (.s 87)) (.l 1))) BF))
def Nc:=dN (.q (.a 3 (.len (.sub (.l 1) (.s 87)))) (.Lp [5,6] (.L 48 0 1)) (.gI 4 (.range (.e (.V 39 0 5))) Gl) (.i (.dh (.d (.l 2) (.ng (.l 6)))) (.d (.ex (.y 44 (.l 1) (.l 3) (.g 39) .bt)) (.ret (.N 40 1 18 0 (.li 5) 0 0)))) (.d (.i (.dh (.d (.ng (.l 2)) (.l 6))) (.e (.ret (.call 46 (.q (.l 1) (.l 3) .lz (.v 43 (.l 1) (.li 5)) (.e (.g 17))))))) (.ret (.l 5))))
def MA:=dN (.q (.ex (.w 37 (.l 0) (.l 1) (.l 2))) (.a 6 (.sorted (.comp (.tup (.f (.n 2336) (.attr (.sub (.l 10) (.n 0)) 5) (.tup .z))) 10 (.seq (.l 3)) (.e (.dh (.d (.eq (.sub (.l 10) (.n 1)) (.g 26)) (.sub (.l 10) (.n 3)))))))) (.a 7 (.comp (.l 11) 11 (.seq (.l 4)) (.e (.dh (.d (.eq (.sub (.l 11) (.n 1)) (.g 26)) (.sub (.l 11) (.n 3))))))) (.a 8 (.ite (.cmp .gt (.len (.l 7)) (.n 1)) (.list (.e (.p (.g 21) (.x 2 5)))) .lz)) E9)
def RP:=dN (.r (.a 1 .lz) (.a 2 (.li 0)) (.gz (.l 2) RO) (.ret (.l 1)))
def My:=dN (.q (.gI 3 (.seq (.attr (.S 2 3 1) 3)) R1) (.a 4 (.u 34 (.S 2 3 3))) (.i (.cmp .gt (.len (.l 4)) (.n 1)) (.e (.ex (.kN (.l 0) 113 (.d (.g 21) (.l 2)))))) (.a 4 (.comp (.l 7) 7 (.seq (.l 4)) (.e (.v 15 (.S 2 3 3) (.x 7 6))))) IM)
def LZ:=dN (.f (.a 2 (.comp (.l 5) 5 (.seq (.x 0 3)) (.e (.p_ true (.l 5))))) (.gz (.l 2) RK) (.ret .bf))
def UC:List (IB):=[SQ,SR,RH,SW,RP,RQ,Tc,S_,RX,RV,LZ,Mw,Ml,Mj,Mp,LY,Px,PE,MG,Py,MH,PC,MO,MN,MI,SG,SH,MK,PA,Pz,PB,L3,Ek,Ma,Ex,Mu,Mr,My,L5,H9,Ph,MB,PF,PG,MF,MD,MV,MW,Na,Qc,Qd,Nc,Ng,Ib,LV,Mc,Me,Mh,MA,MR]
def Cu(f:Nat):IB:=UC.getD f .z
noncomputable def eN(x:String):Option (Str×NameKind):=some (Str.ofString x,.local)
noncomputable def OE(x:String):Option (Str×NameKind):=some (Str.ofString x,.cell)
def sl(l:List String):Slots:=l.map eN
def UD:List Slots:=[sl ["self","kind","a","kids","flags","at"],sl ["kind","a","kids","flags","at"],sl ["node","flag"],sl ["node"],sl ["root","out","stack","node","at","kid"],sl ["root","start","number","node"],sl ["self","sid","name","what","node","scope","home"],sl ["self","diags"],sl ["cx","did","symbol","node"],[eN "node",none],[eN "func",eN "nid",eN "waiting",eN "node",eN "kid",none],sl ["cx","did","nid","node","ctor"],[OE "param",eN "mods",none],sl ["node","ctor"],[eN "node",eN "ctor",none],[eN "body",eN "nid",eN "waiting",eN "node",none],sl ["self","number","at","args","file"],sl ["self"],sl ["self","file"],sl ["self","number","at","args"],sl ["self"],sl ["self","code","at"],sl ["self","row"],sl ["self","row","t"],sl ["self","did","kind","name"],sl ["self"],sl ["self"],sl ["self","tab","host","bound","graph","namer","diags","notes"],sl ["self","number","node","args"],sl ["self","number","at","args","diag"],sl ["self","code","node"],sl ["body","out","waiting","node","kid"],sl ["node"],[eN "param",eN "out",eN "waiting",eN "node",none],sl ["root","out","waiting","node","kid"],sl ["body","call","node"],sl ["node","kid"],[eN "cx",eN "node",OE "ctor",eN "param",eN "calls",eN "init",eN "call",none,none],[eN "node",eN "out",eN "waiting",eN "top",none],sl ["pile","most"],sl ["bag","kind","word","kids","flags","sort","node"],sl ["bag","word"],sl ["bag","kids"],sl ["bag","kids"],sl ["bag","start","words","row","hit","i"],sl ["bag","callee","args","sort"],sl ["bag","start","params","body","flags"],sl ["bag","start","base","members","kids"],sl ["pile","bag","way","callee","args","kids","inside","start"],sl ["pile","bag","start","node","way","param","field","piece","pattern","decl"],sl ["pile","bag","start","node","way","clause","member"],sl ["pile","bag","stmt","start","lap","node","is_row"],sl ["pile","bag","out","start","node"],sl ["pile","bag","out","deep","way","kids","lap","form","target"],sl ["pile","bag","out","flags","pattern","own","prop"],[eN "nodes",none],[eN "marks",OE "sorts",OE "word",none],[eN "marks",eN "param",eN "out",eN "own",eN "got",eN "node",eN "start",eN "end",eN "held",none],[eN "cx",eN "node",eN "func",eN "early",eN "held",eN "laid",eN "want",eN "calls",eN "noted",eN "rows",none,none,none,none,none],[eN "script",OE "pile",OE "bag",eN "maker",eN "seen",eN "valued",eN "spot",eN "params",eN "marks",eN "border",eN "rows",eN "body",eN "func",eN "members",eN "i",eN "kids",eN "node",eN "other",eN "tab",eN "made",eN "bound",eN "cx",eN "step",eN "held",eN "laid",eN "value",eN "hit",eN "nid",eN "param",eN "out",eN "own",eN "prop",none,none,none,none,none]]
noncomputable def rE(f:Nat):Slots:=UD.getD f []
noncomputable def UE:List (Nat):=[6,5,2,1,1,2,7,2,2,1,2,3,1,1,1,2,5,1,2,4,1,3,1,2,4,1,1,8,4,4,3,1,1,1,1,2,1,3,1,2,6,2,2,2,4,4,5,4,2,4,4,3,3,4,2,1,3,4,6,1]
noncomputable def iR(f:Nat):Nat:=UE.getD f 0
noncomputable def SI:List (Nat):=[6,5,2,1,6,4,7,2,4,2,6,5,3,2,3,5,5,1,2,4,1,3,2,3,4,1,1,8,4,5,3,5,1,5,5,3,2,9,5,2,7,2,2,2,6,4,5,5,8,10,7,7,5,9,7,2,4,10,15,37]
noncomputable def QF(f:Nat):Nat:=SI.getD f 0
section
open PySem.SeqAt
noncomputable abbrev pw:Program:=PySem.Challenge.pw_up0037_01
noncomputable abbrev NS:Nat:=130
noncomputable abbrev gZ(vs:Array Value)(n:Nat):Obj:=⟨.type "tuple",none,.seq vs n,#[]⟩
def bw(h h':Heap):Prop:=∀x vs n,h.get? x=some (gZ vs n)->h'.get? x=some (gZ vs n)
def bw.refl(h:Heap):bw h h:=λa a a e=>e
def bw.trans{a b d:Heap}(x:bw a b)(y:bw b d):bw a d:=λc c c e=>y _ _ _ (x _ _ _ e)
noncomputable def nI:List Str->Bool
 | []=>true
 |a::r=> !r.contains a&&nI r
def DZ:∀{l:List Str},nI l=true->∀{i j:Nat} {x:Str},l[i]? =some x->l[j]? =some x->i=j:=by
 intro zl
 induction zl with
 |nil=>
  intro _ i j x b _;simp at b
 |cons a r f=>
  intro h i j x b c;simp only [nI,cM,C6]at h;have d:∀k:Nat,r[k]? ≠some a:=λk e=>by
   have:r.contains a=true:=by simp [nR e]
   rw [this]at h;exact absurd h.1 (by simp)
  cases i with
  |zero=>cases j with
   |zero=>rfl
   |succ j=>simp at b c;subst b;exact absurd c (d j)
  |succ i=>cases j with
   |zero=>simp at b c;subst c;exact absurd b (d i)
   |succ j=>simp at b c;rw [f h.2 b c]
def Oi:nI ((List.range NS).map sn)=true:=by kernel_rfl
def tS{n m:Nat}(b:n<NS)(a:m<NS)(e:sn n=sn m):n=m:=
 DZ Oi (x:=sn n) (by simp [b]) (by simp [a,e])
def QS(t:List V->Bool):V->Bool
 | .int _=>true
 | .str m=>decide (m<NS)
 | .tup l=>t l
 | .none=>false
 | .bool _=>false
 | .ref _=>false
def jP:Nat->V->Bool
 |0=>QS λa=>false
 |n+1=>QS λl=>l.all (jP n)
def zR(P:V->Value->Prop):List V->List Value->Prop
 | [],[]=>True
 |a::l,b::m=>P a b/\zR P l m
 | [],_::_=>False
 |_::_,[]=>False
def D6(h:Heap)(t:List V->List Value->Prop):V->Value->Prop
 | .int i,v=>∃t,v= .int i t
 | .str n,v=>n<NS/\∃t,v= .str (sn n) t
 | .tup l,v=>∃a vs m,v= .ref a/\h.get? a=some (gZ vs m)/\t l vs.toList
 | .none,_=>False
 | .bool _,_=>False
 | .ref _,_=>False
def KR(h:Heap):Nat->V->Value->Prop
 |0=>D6 h λa a=>False
 |n+1=>D6 h (zR (KR h n))
def zR.len{P:V->Value->Prop}:∀(l:List V) (m:List Value),zR P l m->m.length=l.length:=by
 intro l
 induction l with
 |nil=>intro m h;cases m with
  |nil=>rfl
  |cons _ _=>exact False.elim h
 |cons a l c=>intro m h;cases m with
  |nil=>exact False.elim h
  |cons b m=>exact congrArg (·+1) (c m h.2)
def zR.get{P:V->Value->Prop}:∀{l:List V} {m:List Value} {i:Nat} {a:V} {b:Value},zR P l m->l[i]? =some a->m[i]? =some b->P a b:=by
 intro l
 induction l with
 |nil=>intro m i a b _ h;exact oo h
 |cons x l e=>
  intro m i a b h d c
  cases m with
  |nil=>exact False.elim h
  |cons y m=>cases i with
   |zero=>cases fE d;cases fE c;exact h.1
   |succ i=>exact e h.2 d c
def zR.imp{P c:V->Value->Prop}:∀(l:List V) (m:List Value),(∀a ∈ l,∀b,P a b->c a b)->zR P l m->zR c l m:=by
 intro l
 induction l with
 |nil=>intro m _ h;cases m with
  |nil=>trivial
  |cons _ _=>exact False.elim h
 |cons a l d=>intro m f h;cases m with
  |nil=>exact False.elim h
  |cons b m=>exact⟨f a cW b h.1,d m (λa h=>f a (gh _ h)) h.2⟩
def D6.el{h:Heap}{t:List V->List Value->Prop}{P:V->Value->Prop}{a:V}{v:Value}(x:D6 h t a v)(k1:∀i t,P (.int i) (.int i t))(k2:∀m t,m<NS->P (.str m) (.str (sn m) t))(k3:∀l p vs m,h.get? p=some (gZ vs m)->t l vs.toList->P (.tup l) (.ref p)):P a v:=by
 cases a<;>first |exact False.elim x |skip
 .exact x.elim λt e=>e.symm.rec (k1 _ t)
 .exact x.2.elim λt e=>e.symm.rec (k2 _ t x.1)
 .exact x.elim λp e=>e.elim λvs e=>e.elim λm e=>e.1.symm.rec (k3 _ p vs m e.2.1 e.2.2)
def KR.el{h:Heap}{n:Nat}{P:V->Value->Prop}{a:V}{v:Value}(x:KR h n a v)(k1:∀i t,P (.int i) (.int i t))(k2:∀m t,m<NS->P (.str m) (.str (sn m) t))(k3:∀k l p vs m,n=k+1->h.get? p=some (gZ vs m)->zR (KR h k) l vs.toList->P (.tup l) (.ref p)):P a v:=by
 cases n with
 |zero=>exact D6.el x k1 k2 λb b b b b h=>False.elim h
 |succ k=>exact D6.el x k1 k2 λl p vs m=>k3 k l p vs m rfl
def KR.ind{h:Heap}{P:Nat->V->Value->Prop}(k1:∀n i t,P n (.int i) (.int i t))(k2:∀n m t,m<NS->P n (.str m) (.str (sn m) t))(k3:∀n l p vs m,h.get? p=some (gZ vs m)->zR (KR h n) l vs.toList->(∀a v,KR h n a v->P n a v)->P (n+1) (.tup l) (.ref p)):∀(n:Nat) (a:V) (v:Value),KR h n a v->P n a v:=by
 intro n
 induction n with
 |zero=>exact λa v x=>D6.el x (k1 0) (k2 0) λb b b b b h=>False.elim h
 |succ n c=>exact λa v x=>D6.el x (k1 _) (k2 _) λl p vs m g r=>k3 n l p vs m g r c
def KR.Si{h:Heap}{n:Nat}{i:Int}{t:Tok}:KR h n (.int i) (.int i t):=by cases n<;>exact⟨t,rfl⟩
def KR.By{h:Heap}{n m:Nat}{t:Tok}(a:m<NS):KR h n (.str m) (.str (sn m) t):=by cases n<;>exact⟨a,t,rfl⟩
def KR.mono{h h':Heap}(f:bw h h'):∀(n:Nat) (a:V) (v:Value),KR h n a v->KR h' n a v:=
 KR.ind (λc c c=>KR.Si) (λc c c d=>KR.By d) λn l p vs m g r e=>⟨p,vs,m,rfl,f _ _ _ g,zR.imp l _ (λa c b=>e a b) r⟩
def KR.inj{h:Heap}(n:Nat)(a:V)(v:Value)(x:KR h n a v):∀(b:V),KR h n b v->a=b:=by
 refine KR.ind (P:=λn a v=>∀b,KR h n b v->a=b) (λn i t b y=> ?_) (λn m t q b y=> ?_) (λn l p vs m g r z b y=> ?_) n a v x
 .exact KR.el (P:=λb w=>w= .int i t->V.int i=b) y (λj u e=>by injection e with e;rw [e]) (λc c c=>nofun) (λc c c c c c c c=>nofun) rfl
 .exact KR.el (P:=λb w=>w= .str (sn m) t->V.str m=b) y (λc c=>nofun) (λk u f e=>by injection e with e;rw [tS f q e]) (λc c c c c c c c=>nofun) rfl
 .refine KR.el (P:=λb w=>w= .ref p->V.tup l=b) y (λc c=>nofun) (λc c c=>nofun) (λk l' D C m' f g' d e=> ?_) rfl;cases f;cases e;cases fE (g.symm.trans g');clear g g' y;refine congrArg V.tup ?_;generalize vs.toList=ws at r d
  induction l generalizing l' ws with
  |nil=>cases ws with
   |nil=>cases l' with
    |nil=>rfl
    |cons _ _=>exact False.elim d
   |cons _ _=>exact False.elim r
  |cons a l o=>cases ws with
   |nil=>exact False.elim r
   |cons b m=>cases l' with
    |nil=>exact False.elim d
    |cons A l'=>rw [z a b r.1 A d.1,o l' m r.2 d.2]
mutual
def zM(w:World):V->Int
 | .int i=>hashInt i
 | .str n=>hashStr w (sn n)
 | .tup l=>reduceHash (Builtin.Tuple.tupleHashOf (g_ w l))
 |_=>0
def g_(w:World):List V->List Int
 | []=>[]
 |a::l=>zM w a::g_ w l
end
mutual
noncomputable def zN:V->Nat
 | .int _=>1
 | .str _=>1
 | .tup l=>jN l+1
 |_=>0
noncomputable def jN:List V->Nat
 | []=>0
 |a::l=>zN a+jN l
end
def nK(w:World):∀l l':List V,g_ w (l++l')=g_ w l++g_ w l':=by
 intro zl
 induction zl with
 |nil=>
  intro _;exact rfl
 |cons a l b=>
  intro l';simp only [Dc,g_,b l']
def nN:∀l l':List V,jN (l++l')=jN l+jN l':=by
 intro zl
 induction zl with
 |nil=>
  intro _;simp [jN]
 |cons a l c=>
  intro l';simp only [Dc,jN,c l'];exact iW (cD λb=>bx (jt _ _ _) (AN (AN (AN aE aI) bg) aA) (AN aE (AN aI bg)) b rfl) (cD λb=>bx (jt _ _ _) (AN (AN aE (AN aI bg)) aA) (AN (AN aE aI) bg) b rfl)
def qO{h:Heap}{y:Addr}{vs:Array Value}{n:Nat}(g:h.get? y=some (gZ vs n)):h.IsTuple y vs:=⟨_,g,rfl,n,rfl⟩
def KR.eq(n:Nat)(a b:V)(v u:Value)(A:Around)(s:Shared)(o:A.units+n<9000)(x:KR s.heap n a v)(y:KR s.heap n b u):EqAt A s v u (decide (a=b)):=by
 have conv:∀{A:Around} {v u:Value} {b N:Bool},b=N->EqAt A s v u b->EqAt A s v u N:=λe h=>e▸h
 have no:∀{A:Around} {v u:Value} {a b:V},EqAt A s v u false->a≠b->EqAt A s v u (decide (a=b)):=λh e=>conv (decide_eq_false e).symm h
 refine KR.ind (P:=λn a v=>∀(b:V) (u:Value) (A:Around),A.units+n<9000->KR s.heap n b u->EqAt A s v u (decide (a=b))) (λn i t b u A o y=> ?_) (λn m t hm b u A o y=> ?_) (λn l p vs m g r ih b u A o y=> ?_) n a v x b u A o y
 all_goals have cu:A.units<cLine:=zt (zt (za (zr _) 1) o) (bI rfl)
 .refine KR.el (P:=λb u=>EqAt A s (.int i t) u (decide (V.int i=b))) y (λj C=> ?_) (λk C f=>no (EqAt.int_str _ _ _ _) nofun) (λk l p vs m f g r=>no (EqAt.int_tuple _ _ (qO g) cu) nofun);exact conv (by by_cases e:i=j<;>simp [e]) (EqAt.int_int _ _ _ _)
 .refine KR.el (P:=λb u=>EqAt A s (.str (sn m) t) u (decide (V.str m=b))) y (λj C=>no (EqAt.str_int _ _ _ _) nofun) (λk C f=> ?_) (λk l p vs m f g r=>no (EqAt.str_tuple _ _ (qO g) cu) nofun);refine conv ?_ (EqAt.str_str _ _ _ _)
  by_cases e:m=k
  .subst e;simp
  .have: ¬sn m=sn k:=λz=>e (tS hm f z);simp [e,this]
 .have x:KR s.heap (n+1) (.tup l) (.ref p):=⟨p,vs,m,rfl,g,r⟩;refine KR.el (P:=λb u=>KR s.heap (n+1) b u->EqAt A s (.ref p) u (decide (V.tup l=b))) y (λj C zz=>no (EqAt.tuple_int _ _ (qO g) cu) nofun) (λk C f zz=>no (EqAt.tuple_str _ _ (qO g) cu) nofun) (λk l' q d m' f g' J y=> ?_) y;cases f;by_cases G:p=q
  .subst G;exact conv (decide_eq_true (KR.inj _ _ _ x _ y)).symm (EqAt.same _)
  have s1:vs.size=l.length:=by rw [<-ly];exact zR.len _ _ r
  have Q:d.size=l'.length:=by rw [<-ly];exact zR.len _ _ J
  refine EqAt.of_refs G ?_;have D:=RcAt.tuples (e:=λj=>decide (l[j]? =l'[j]?)) (qO g) (qO g') cu λj U M=>by
   have jl:=(zt U (ze s1));have Y:=(zt M (ze Q));have e1:vs.toList[j]? =some vs[j]:=by rw [nh,xw U]
   have e2:d.toList[j]? =some d[j]:=by rw [nh,xw M]
   have f1:=gO jl;have f2:=gO Y;have z:=ih l[j] vs[j] (r.get f1 e1) l'[j] d[j] A.in1 (by rw [<-AA,Nat.add_right_comm]at o;exact o) (J.get f2 e2);exact conv (by rw [f1,f2];simp) z
  have e:((List.range (min vs.size d.size)).all (λj=>decide (l[j]? =l'[j]?))&&vs.size==d.size)=decide (V.tup l=V.tup l'):=by
   rw [s1,Q];by_cases H:l=l'
   .subst H;simp
   .rw [decide_eq_false λz=>H (V.tup.inj z)];by_cases bW:l.length=l'.length
    .rw [Bool.and_eq_false_iff];left;rw [List.all_eq_false];apply Jh;intro I;refine H (List.ext_getElem? λi=> ?_);refine a_ (oO i l.length) (λhi=> ?_) λhi=> ?_
     .apply Jh;intro L;exact I ⟨i,by rw [<-bW,Nat.min_self];exact List.mem_range.mpr hi,by simpa using L⟩
     .rw [zT hi,zT (zt (zf bW) hi)]
    .rw [beq_eq_false_iff_ne.mpr bW,Bool.and_false]
  rw [e]at D;exact D
section
variable{prog:Program}{w:World}{E:Value->Shared->Prop}
def KR.pyHash:∀(n:Nat) (a:V) (v:Value) (A:Around) (s:Shared) (Q:Int->Shared->Prop),A.units+n<9000->KR s.heap n a v->Q (zM w a) {s with toks:=s.toks+zN a}->wpAny (model prog w) A (PySem.pyHash v) Q E s:=by
 intro n
 induction n with
 |zero=>exact λa v A s Q q x h=>D6.el (P:=λa v=>Q (zM w a) {s with toks:=s.toks+zN a}->wpAny (model prog w) A (PySem.pyHash v) Q E s) x (λi t h=>wpAny_pyHash_int h) (λm t z h=>wpAny_pyHash_str h) (λd d d d d f d=>f.elim) h
 |succ n ih=>
  intro a v A s Q q x h;refine D6.el (P:=λa v=>Q (zM w a) {s with toks:=s.toks+zN a}->wpAny (model prog w) A (PySem.pyHash v) Q E s) x (λi t h=>wpAny_pyHash_int h) (λm t z h=>wpAny_pyHash_str h) (λl p vs m g r h=> ?_) h
  .have cu:A.units<cLine:=zt (zt (za (zr _) 1) q) (bI rfl);have j:s.TypeIs (.ref p) "tuple":=⟨_,g,rfl⟩
   first |unfold pyHashByItsType |skip
   first |refine wpAny_bind (wpAny_cRoomFor_or (.inr cu) ?_) |skip
   refine wpAny_bind (wpAny_specialOf j F.slot_tuple_hash.lookup ?_);refine wpAny_bind (wpAny_specialOf j F.slot_tuple_hash.lookup ?_);refine wpAny_bind (wpAny_callSpecialIfBoundUnlessNone?_slot j F.slot_tuple_hash (wpAny_call_entry F.slot_tuple_hash j F.entry_tuple_hash ?_ (F.args_tuple_hash_1 _)));show wpAny _ _ (Builtin.Tuple.tupleItemsOf (.ref p) >>= _) _ _ s;refine wpAny_bind (wpAny_tupleItemsOf g rfl ?_);refine wpAny_bind ?_;rw [<-Array.forIn_toList];refine wpAny_forIn_list _
    (λe (b:Array Int) u=>∃done left,l=done++left/\zR (KR s.heap n) left e/\b.toList=g_ w done/\u={s with toks:=s.toks+jN done})
    _ ?_ ?_ _ _ ⟨[],l,rfl,r,rfl,rfl⟩
   .rintro x e b u ⟨done,left,rfl,c,hb,rfl⟩
    cases left with
    |nil=>exact c.elim
    |cons k left=>
     refine wpAny_bind (ih k x _ _ _ (by rw [<-AA,Nat.add_right_comm]at q;exact q) c.1 ?_)
     first
      |exact wpAny_pure ⟨done++ [k],left,by simp,c.2,by simp [hb,nK,g_],by simp [nN,jN,AA]⟩
      |exact wpAny_bind (wpAny_pure (wpAny_pure ⟨done++ [k],left,by simp,c.2,by simp [hb,nK,g_],by simp [nN,jN,AA]⟩))
   .rintro b u ⟨done,left,rfl,c,hb,rfl⟩
    cases left with
    |cons _ _=>exact c.elim
    |nil=>
     rw [fK]at h;show wpAny _ _ (retInt (Builtin.Tuple.tupleHashOf b.toList)) _ _ _;rw [hb];refine wpAny_ret_mkInt ?_;show wpAny _ _ (if(decide (-(2:Int)^63<=Builtin.Tuple.tupleHashOf (g_ w done))&&decide (Builtin.Tuple.tupleHashOf (g_ w done)<2^63))=true then _ else _) Q E _;have h:Q (reduceHash (Builtin.Tuple.tupleHashOf (g_ w done))) {s with toks:=s.toks+(jN done+1)}:=h;dsimp only [reduceHash]at h;by_cases o:(decide (-(2:Int)^63<=Builtin.Tuple.tupleHashOf (g_ w done))&&decide (Builtin.Tuple.tupleHashOf (g_ w done)<2^63))=true
     .rw [if_pos o];rw [if_pos o]at h;exact wpAny_pure (by simpa [AA]using h)
     .rw [if_neg o];rw [if_neg o]at h;exact wpAny_bind (wpAny_rule (wpAny_pure (by simpa [AA]using h)))
def KR.quiet{A:Around}{s:Shared}:∀(n:Nat) (k:Nat) (a:V) (v:Value) (Q:Bool->Shared->Prop),n<=k->KR s.heap n a v->Q true s->wpAny (model prog w) A (eqIsQuiet k v) Q E s:=by
 have base:∀(k:Nat) (v:Value) (Q:Bool->Shared->Prop),carriedByValue v=true->Q true s->wpAny (model prog w) A (eqIsQuiet k v) Q E s:=λk v Q z h=>by
  rw [eqIsQuiet_byValue _ z];exact wpAny_pure h
 intro n
 induction n with
 |zero=>exact λk a v Q o x h=>D6.el (P:=λa v=>wpAny (model prog w) A (eqIsQuiet k v) Q E s) x (λi t=>base _ _ _ rfl h) (λm t y=>base _ _ _ rfl h) (λc c c c c f=>f.elim)
 |succ n ih=>
  intro k a v Q o x h;refine D6.el (P:=λa v=>wpAny (model prog w) A (eqIsQuiet k v) Q E s) x (λi t=>base _ _ _ rfl h) (λm t y=>base _ _ _ rfl h) (λl p vs m g r=> ?_)
  .
   have q:s.TypeIs (.ref p) "tuple":=⟨_,g,rfl⟩;obtain ⟨k,rfl⟩:=Nat.exists_eq_add_one.mpr (pG (Nat.succ_pos n) o);unfold eqIsQuiet;refine wpAny_bind (wpAny_specialOf q F.slot_tuple_eq.lookup ?_);refine wpAny_bind (wpAny_isInstance q isSubtype_tuple_tuple ?_);refine wpAny_bind (wpAny_seqItems g rfl ?_);refine wpAny_bind ?_;rw [<-Array.forIn_toList];refine wpAny_forIn_list _ (λb r d=>r.1=none/\d=s/\∃left,zR (KR s.heap n) left b) _ ?_ ?_ _ _ ⟨rfl,rfl,l,r⟩
   .rintro v b r d ⟨j,rfl,left,e⟩
    cases left with
    |nil=>exact e.elim
    |cons a left=>
     refine wpAny_bind (ih k a v _ (Nat.le_of_succ_le_succ o) e.1 ?_);exact wpAny_pure ⟨rfl,rfl,left,e.2⟩
   .rintro ⟨C,D⟩ d ⟨j,rfl,_⟩
    simp only at j;subst j;exact wpAny_pure h
end
def yV(prog:Program)(w:World):HeapKind prog w (List V) where
 is:=λh l a=>KR h 3 (.tup l) (.ref a)
 hash:=λl=>zM w (.tup l)
 draws:=λl=>zN (.tup l)
 room:=λA=>A.units+3<9000
 inj:=λj c=>V.tup.inj (KR.inj _ _ _ j _ c)
 keeps:=λ{h h' l a d o es v} x t m u=>KR.mono (λy vs n g=>by
  rw [u.2 y (λz=>by rw [z,t]at g;cases fE g;cases m)];exact g) _ _ _ x
 pyHash:=λf k h=>KR.pyHash 3 _ _ _ _ _ f k h
 eqBool:=λ{A E s x y a b Q} f j c h=>by
  have:=KR.eq 3 _ _ _ _ A s f j c prog w E Q;refine this ?_;have e:decide (V.tup x=V.tup y)=decide (x=y):=by
   by_cases z:x=y
   .subst z;rw [decide_eq_true rfl,decide_eq_true rfl]
   .rw [decide_eq_false z,decide_eq_false λq=>z (V.tup.inj q)]
  rw [e];exact h
 quiet:=λk h=>KR.quiet 3 8 _ _ _ (bI rfl) k h
end
abbrev dM:=List (Addr×Addr)
noncomputable abbrev big:Nat:=1000000
structure Cfg where
 w:World
 b0:Heap
 K:Frag
 mg:Str->Option Value
 mb:Str->Option Value
noncomputable abbrev ni(vs:Array Value)(n:Nat):Obj:=⟨.type "list",none,.seq vs n,#[]⟩
noncomputable abbrev Ug(es:Array DictEntry)(n:Nat):Obj:=⟨.type "dict",none,.dict es n,#[]⟩
noncomputable abbrev AE(C d:Addr):Obj:=⟨.ref C,some d,.plain,#[]⟩
section
variable(c:Cfg)
mutual
inductive VR (ρ:dM) (h:Heap):V->Value->Prop
 |none:VR ρ h .none .none
 |bool (b):VR ρ h (.bool b) (.bool b)
 |int (i t):VR ρ h (.int i) (.int i t)
 |str (n t):VR ρ h (.str n) (.str (sn n) t)
 |ref (a p):ρ[a]? =some p->VR ρ h (.ref a) (.ref p.1)
 |tup (l x vs n):h.get? x=some (gZ vs n)->cH ρ h l vs.toList->VR ρ h (.tup l) (.ref x)
inductive cH (ρ:dM) (h:Heap):List V->List Value->Prop
 |nil:cH ρ h [] []
 |cons {v l w ws}:VR ρ h v w->cH ρ h l ws->cH ρ h (v::l) (w::ws)
end
end
section
variable{c:Cfg}{ρ ρ':dM}{h h':Heap}
def BS{b:Type}{l l':List b}{a:Nat}{x:b}(d:l <+: l')(e:l[a]? =some x):l'[a]? =some x:=d.elim λr z=>by
 rw [<-z,uw (List.getElem?_eq_some_iff.mp e).1];exact e
def VR.mono(f:ρ <+: ρ')(g:bw h h'){v:V}{w:Value}(x:VR ρ h v w):VR ρ' h' v w:=
 VR.rec (motive_2:=λl d b=>cH ρ' h' l d) .none .bool .int .str (λa p e=> .ref a p (BS f e)) (λl x vs n e b r=> .tup l x vs n (g _ _ _ e) r) .nil (λb b p q=> .cons p q) x
def cH.mono(f:ρ <+: ρ')(g:bw h h'){l:List V}{d:List Value}(x:cH ρ h l d):cH ρ' h' l d:=
 cH.rec .none .bool .int .str (λa p e=> .ref a p (BS f e)) (λl x vs n e b r=> .tup l x vs n (g _ _ _ e) r) .nil (λb b p q=> .cons p q) x
def Tq(ρ:dM)(h:Heap):V->Value->Prop
 | .none,w=>w= .none
 | .bool b,w=>w= .bool b
 | .int i,w=>∃t,w= .int i t
 | .str n,w=>∃t,w= .str (sn n) t
 | .ref a,w=>∃p,ρ[a]? =some p/\w= .ref p.1
 | .tup l,w=>∃x vs n,h.get? x=some (gZ vs n)/\cH ρ h l vs.toList/\w= .ref x
def VR.i{v:V}{w:Value}(x:VR ρ h v w):Tq ρ h v w:=VR.casesOn (motive_1:=λv w a=>Tq ρ h v w) x rfl (λa=>rfl) (λa t=>⟨t,rfl⟩) (λa t=>⟨t,rfl⟩) (λa p e=>⟨p,e,rfl⟩) (λa x vs n e r=>⟨x,vs,n,e,r,rfl⟩)
def Qg(ρ:dM)(h:Heap):List V->List Value->Prop
 | [],a=>a=[]
 |v::l,a=>∃w r,VR ρ h v w/\cH ρ h l r/\a=w::r
def cH.i{v:List V}{w:List Value}(x:cH ρ h v w):Qg ρ h v w:=cH.casesOn (motive_2:=λv w d=>Qg ρ h v w) x rfl (λa b=>⟨_,_,a,b,rfl⟩)
@[elab_as_elim] def VR.gC{i:Int}{w:Value}{P:Value->Prop}(x:VR ρ h (.int i) w)(k:∀t,P (.int i t)):P w:=x.i.elim λt e=>e.symm.rec (k t)
@[elab_as_elim] def VR.mV{b:Bool}{w:Value}{P:Value->Prop}(x:VR ρ h (.bool b) w)(k:P (.bool b)):P w:=(show w=_ from x.i).symm.rec k
@[elab_as_elim] def VR.BU{w:Value}{P:Value->Prop}(x:VR ρ h .none w)(k:P .none):P w:=(show w=_ from x.i).symm.rec k
@[elab_as_elim] def VR.AF{n:Nat}{w:Value}{P:Value->Prop}(x:VR ρ h (.str n) w)(k:∀t,P (.str (sn n) t)):P w:=x.i.elim λt e=>e.symm.rec (k t)
@[elab_as_elim] def VR.Sf{a:Nat}{w:Value}{P:Value->Prop}(x:VR ρ h (.ref a) w)(k:∀p,ρ[a]? =some p->P (.ref p.1)):P w:=x.i.elim λp e=>e.2.symm.rec (k p e.1)
@[elab_as_elim] def VR.qA{l:List V}{w:Value}{P:Value->Prop}(x:VR ρ h (.tup l) w)(k:∀a vs n,h.get? a=some (gZ vs n)->cH ρ h l vs.toList->P (.ref a)):P w:=x.i.elim λa e=>e.elim λvs e=>e.elim λn e=>e.2.2.symm.rec (k a vs n e.1 e.2.1)
@[elab_as_elim] def cH.jL{a:List Value}{P:List Value->Prop}(x:cH ρ h [] a)(k:P []):P a:=(show a=_ from x.i).symm.rec k
@[elab_as_elim] def cH.fO{v:V}{l:List V}{a:List Value}{P:List Value->Prop}(x:cH ρ h (v::l) a)(k:∀w r,VR ρ h v w->cH ρ h l r->P (w::r)):P a:=x.i.elim λw e=>e.elim λr e=>e.2.2.symm.rec (k w r e.1 e.2.1)
def cH.length{l ws}(x:cH ρ h l ws):ws.length=l.length:=by
 induction l generalizing ws with
 |nil=>exact cH.jL x rfl
 |cons a l b=>exact cH.fO x λw r d q=>congrArg (·+1) (b q)
def cH.get{l ws}(x:cH ρ h l ws){i:Nat}{v:V}(e:l[i]? =some v):∃w,ws[i]? =some w/\VR ρ h v w:=by
 induction l generalizing ws i with
 |nil=>exact oo e
 |cons a l b=>
  refine cH.fO x λw r p q=> ?_
  cases i with
  |zero=>cases fE e;exact⟨_,rfl,p⟩
  |succ i=>exact b q e
def cH.append{l ws l' ws'}(x:cH ρ h l ws)(y:cH ρ h l' ws'):cH ρ h (l++l') (ws++ws'):=by
 induction l generalizing ws with
 |nil=>exact cH.jL x y
 |cons a l b=>exact cH.fO x λw r p q=> .cons p (b q)
def cH.take{l ws}(x:cH ρ h l ws)(n:Nat):cH ρ h (l.take n) (ws.take n):=by
 induction l generalizing ws n with
 |nil=>refine cH.jL x ?_;cases n<;>exact .nil
 |cons a l b=>
  refine cH.fO x λw r p q=> ?_
  cases n with
  |zero=>exact .nil
  |succ n=>exact .cons p (b q n)
def cH.drop{l ws}(x:cH ρ h l ws)(n:Nat):cH ρ h (l.drop n) (ws.drop n):=by
 induction l generalizing ws n with
 |nil=>refine cH.jL x ?_;cases n<;>exact .nil
 |cons a l b=>
  refine cH.fO x λw r p q=> ?_
  cases n with
  |zero=>exact .cons p q
  |succ n=>exact b q n
def cH.set{l b}(x:cH ρ h l b)(n:Nat){v w}(y:VR ρ h v w):cH ρ h (l.set n v) (b.set n w):=by
 induction l generalizing b n with
 |nil=>exact cH.jL x .nil
 |cons a l d=>
  refine cH.fO x λw r p q=> ?_
  cases n with
  |zero=>exact .cons y q
  |succ n=>exact .cons p (d q n)
end
def d7(ρ:dM)(a:Addr):Prop:=∃p ∈ ρ,a=p.1\/a=p.2
def Du(ρ:dM)(h:Heap)(b:List (Nat×V))(a:Str->Option Value):Prop:=
 ∀n,n<NS->match b.lookup n with
  |none=>a (sn n)=none
  |some v=>∃w,a (sn n)=some w/\VR ρ h v w
set_option tactic.hygienic true in
def Du.mono{ρ ρ':dM}{h h':Heap}{a:List (Nat×V)}{b:Str->Option Value}(x:Du ρ h a b)(d:ρ <+: ρ')(g:bw h h'):Du ρ' h' a b:=λn j=>by
 have:=x n j;split
 .rename_i e;rw [e]at this;exact this
 .rename_i v e;rw [e]at this;obtain ⟨w,f,r⟩:=this;exact⟨w,f,r.mono d g⟩
noncomputable def lW(es:List DictEntry)(x:Str):Option Value:=(es.find? (·.key.isStr x)).map (·.val)
abbrev AG(es:List DictEntry):Prop:=∀e ∈ es,∃x t,e.key= .str x t
abbrev sk(c:Cfg):KeyKind pw c.w Str:=strKind pw c.w
def OR(c:Cfg)(ρ:dM)(h:Heap)(o:O)(p:Addr×Addr):Prop:=match o with
 | .list xs=>p.2=p.1/\xs.length<=big/\∃vs n,h.get? p.1=some (ni vs n)/\cH ρ h xs vs.toList
 | .inst k a=>((∀e ∈ a,fj k e.1=none)/\k<16/\a.length<=500)/\∃es n,h.get? p.1=some (AE (ca k) p.2)/\h.get? p.2=some (dictOf es n)/\(AG es/\es.length<=a.length)/\Du ρ h a (lW es)
 | .dict a=>p.2=p.1/\(a.length<=500/\∀e ∈ a,e.1<NS)/\∃b,h.DictOf (sk c) p.1 b/\b.map (·.1)=a.map (λe=>sn e.1)/\cH ρ h (a.map (·.2)) (b.map (·.2))
 | .dU es=>p.2=p.1/\es.length<=500/\∃xs,h.DictOfH (yV pw c.w) p.1 xs/\xs.map (·.1)=es.map (·.1)/\cH ρ h (es.map (·.2)) (xs.map (·.2.2))
 | .iw xs=>p.2=p.1/\xs.length<=big/\∃vs n,h.get? p.1=some (ni vs n)/\cH ρ h xs vs.toList
noncomputable def Nk:O->Bool
 | .iw _=>true
 |_=>false
def vf{h:Heap}{a:Addr}{d:Str->Option Value}(x:h.Ns a d):∃o,h.get? a=some o/\∀vs n,o≠gZ vs n:=by
 refine tP x λo es f g b e=> ?_;exact⟨o,g,λvs n z=>by rw [z]at b;cases b⟩
def BV{c:Cfg}{h:Heap}{a:Addr}{d:List (Str×Value)}(x:h.DictOf (sk c) a d):∃o,h.get? a=some o/\∀vs n,o≠gZ vs n:=by
 refine jx x λo es f g e b e=> ?_;exact⟨o,g,λvs n z=>by rw [z]at b;cases b⟩
def Tr{h h':Heap}{a:Addr}{b:Str->Option Value}(x:h.Ns a b)(e:h'.get? a=h.get? a):h'.Ns a b:=by
 obtain ⟨o,es,d,g,r⟩:=x;exact⟨o,es,d,e.trans g,r⟩
def JK{c:Cfg}{h h':Heap}{a:Addr}{b:List (Str×Value)}(x:h.DictOf (sk c) a b)(e:h'.get? a=h.get? a):h'.DictOf (sk c) a b:=by
 obtain ⟨o,es,d,g,r⟩:=x;exact⟨o,es,d,e.trans g,r⟩
def Gr{w:World}{h:Heap}{a:Addr}{xs:List (List V×Addr×Value)}(x:h.DictOfH (yV pw w) a xs):∃o,h.get? a=some o/\∀vs n,o≠gZ vs n:=by
 refine jx x λo es e g d b d=> ?_;exact⟨o,g,λvs n z=>by rw [z]at b;cases b⟩
def Gs{w:World}{h h':Heap}{a:Addr}{xs:List (List V×Addr×Value)}(x:h.DictOfH (yV pw w) a xs)(e:h'.get? a=h.get? a)(m:bw h h'):h'.DictOfH (yV pw w) a xs:=by
 refine iY x λo es l g f j b k n=> ?_;exact⟨o,es,l,e.trans g,f,j,b,λy d=>KR.mono m _ _ _ (k y d),n⟩
def Gu{vs a:Array Value}{n m:Nat}:ni vs n≠gZ a m:=λz=>by simp [ni,gZ]at z
abbrev yW(h:Heap)(a:Addr):Prop:=∃o,h.get? a=some o/\∀vs n,o≠gZ vs n
def xA{h:Heap}{p:Addr×Addr}(e:p.2=p.1)(x:yW h p.1):yW h p.1/\yW h p.2:=⟨x,e.symm▸x⟩
def OR.alive{c:Cfg}{ρ:dM}{h:Heap}{o:O}{p:Addr×Addr}(x:OR c ρ h o p):yW h p.1/\yW h p.2:=by
 cases o with
 |list xs=>exact x.2.2.elim λvs e=>e.elim λn g=>xA x.1 ⟨_,g.1,λa a=>Gu⟩
 |inst k b=>obtain ⟨_,es,n,g,g',_⟩:=x;exact⟨⟨_,g,λa a z=>by simp [AE,gZ]at z⟩,⟨_,g',λa a z=>by simp [dictOf,gZ]at z⟩⟩
 |dict b=>exact x.2.2.elim λd g=>xA x.1 (BV g.1)
 |dU b=>exact x.2.2.elim λxs g=>xA x.1 (Gr g.1)
 |iw xs=>exact x.2.2.elim λvs e=>e.elim λn g=>xA x.1 ⟨_,g.1,λa a=>Gu⟩
def OR.mono{c:Cfg}{ρ ρ':dM}{h h':Heap}{o:O}{p:Addr×Addr}(x:OR c ρ h o p)(b:ρ <+: ρ')(a:bw h h')(d:h'.get? p.1=h.get? p.1)(u:h'.get? p.2=h.get? p.2):OR c ρ' h' o p:=by
 cases o with
 |list xs=>obtain ⟨e,hb,vs,n,g,r⟩:=x;exact⟨e,hb,vs,n,d.trans g,r.mono b a⟩
 |inst k t=>obtain ⟨v,es,n,g,g',q,r⟩:=x;exact⟨v,es,n,d.trans g,u.trans g',q,r.mono b a⟩
 |dict t=>obtain ⟨e,f,m,g,j,l⟩:=x;exact⟨e,f,m,JK g d,j,l.mono b a⟩
 |dU t=>obtain ⟨e,f,xs,g,j,l⟩:=x;exact⟨e,f,xs,Gs g d a,j,l.mono b a⟩
 |iw xs=>obtain ⟨e,hb,vs,n,g,r⟩:=x;exact⟨e,hb,vs,n,d.trans g,r.mono b a⟩
structure Own (c:Cfg) (ρ:dM) (st:St) (h:Heap):Prop where
 len:ρ.length=st.length
 rep:∀(i:Nat) (o:O) (p:Addr×Addr),st[i]? =some o->ρ[i]? =some p->OR c ρ h o p
 Nm:∀(i j:Nat) (p q:Addr×Addr),ρ[i]? =some p->ρ[j]? =some q->i≠j->p.1≠q.1/\p.1≠q.2/\p.2≠q.1/\p.2≠q.2
 base:∀(i:Nat) (o:O) (p:Addr×Addr),st[i]? =some o->ρ[i]? =some p->Nk o=false->c.b0.get? p.1=none/\c.b0.get? p.2=none
 keep:∀a o,c.b0.get? a=some o->h.get? a=some o
structure bO (X:Addr->Prop) (ρ ρ':dM) (h h':Heap):Prop where
 pre:ρ <+: ρ'
 ext:∀a o,h.get? a=some o-> ¬d7 ρ a-> ¬X a->h'.get? a=some o
 new:∀a,d7 ρ' a->d7 ρ a\/h.get? a=none\/X a
 tup:bw h h'
abbrev Post:=bO λa=>False
def d7.mono{ρ ρ':dM}{a:Addr}(b:ρ <+: ρ')(x:d7 ρ a):d7 ρ' a:=x.elim λp h=>⟨p,b.subset h.1,h.2⟩
def bO.refl{X:Addr->Prop}{ρ:dM}{h:Heap}:bO X ρ ρ h h:=⟨bS _,λa a e a a=>e,λa e=> .inl e,bw.refl h⟩
def Post.refl{ρ:dM}{h:Heap}:Post ρ ρ h h:=bO.refl
def bO.trans{X:Addr->Prop}{ρ ρ' b:dM}{h h' d:Heap}(x:bO X ρ ρ' h h')(y:bO X ρ' b h' d):bO X ρ b h d:=
 ⟨x.pre.trans y.pre,λa o e n nx=>y.ext a o (x.ext a o e n nx) (λq=>(x.new a q).elim n λz=>z.elim (λz=>(by rw [e]at z;cases z)) nx) nx,
  λa q=>by
   rcases y.new a q with q |z |z
   .exact x.new a q
   .by_cases w:d7 ρ a
    .exact .inl w
    .by_cases nx:X a
     .exact .inr (.inr nx)
     .cases e:h.get? a with
      |none=>exact .inr (.inl rfl)
      |some o=>rw [x.ext a o e w nx]at z;cases z
   .exact .inr (.inr z),
  x.tup.trans y.tup⟩
def bO.mono{X Y:Addr->Prop}{ρ ρ':dM}{h h':Heap}(x:bO X ρ ρ' h h')(b:∀a,X a->Y a\/h.get? a=none):bO Y ρ ρ' h h':=
 ⟨x.pre,λa o e n d=>x.ext a o e n λz=>(b a z).elim d λw=>(by rw [e]at w;cases w),
  λa q=>(x.new a q).imp_right λz=>z.elim .inl λz=>(b a z).elim .inr .inl,x.tup⟩
def Post.uu{X:Addr->Prop}{ρ ρ':dM}{h h':Heap}(x:Post ρ ρ' h h'):bO X ρ ρ' h h':=x.mono λa z=>z.elim
section
variable{c:Cfg}{ρ ρ':dM}{st:St}{h h':Heap}
def Own.at{i:Nat}{o:O}(x:Own c ρ st h)(e:st[i]? =some o):∃p,ρ[i]? =some p/\OR c ρ h o p:=by
 have hi:=(List.getElem?_eq_some_iff.mp e).1;have a:i<ρ.length:=by rw [x.len];exact hi
 exact⟨ρ[i],gO a,x.rep i o _ e (gO a)⟩
def Own.alive(x:Own c ρ st h){a:Addr}(q:d7 ρ a):∃o,h.get? a=some o/\∀vs n,o≠gZ vs n:=by
 refine aB q λp m e=> ?_;obtain ⟨i,hi,rfl⟩:=Dg m;have b:=x.len▸hi;have r:=(x.rep i _ ρ[i] (gO b) (gO hi)).alive;rcases e with e |e
 .rw [e];exact r.1
 .rw [e];exact r.2
def Own.other(x:Own c ρ st h)(b:∀a,d7 ρ a->h'.get? a=h.get? a)(f:bw h h')(d:∀a o,c.b0.get? a=some o->h'.get? a=some o):Own c ρ st h' where
 len:=x.len
 rep:=λi o p e q=>(x.rep i o p e q).mono (bS _) f (b _ ⟨p,nR q,.inl rfl⟩) (b _ ⟨p,nR q,.inr rfl⟩)
 Nm:=x.Nm
 base:=x.base
 keep:=d
def nn{h:Heap}{a b:Addr}{o:Obj}(d:h.get? b=none)(e:h.get? a=some o):a≠b:=λz=>oo (d.symm.trans (z▸e))
def mW{a:Type}{l:List a}{x q:a}{j:Nat}(e:(l++ [x])[j]? =some q):(j<l.length/\l[j]? =some q)\/(j=l.length/\q=x):=by
 refine a_ (oO j l.length) (λz=> ?_) λz=> ?_
 .rw [uw z]at e;exact .inl ⟨z,e⟩
 .have w:=iW (xx (by have:=(List.getElem?_eq_some_iff.mp e).1;rw [cC]at this;exact this)) z;rw [w,Af (bP _),rX]at e;exact .inr ⟨w,(fE e).symm⟩
def Lq{g f:Type}{l:List g}{l':List f}{x q:g}{m d:f}{j:Nat}{P:Prop}(n:l.length=l'.length)(e:(l++ [x])[j]? =some q)(k:(l'++ [m])[j]? =some d)(k1:l[j]? =some q->l'[j]? =some d->P)(k2:q=x->d=m->P):P:=
 (mW e).elim (λa=>(mW k).elim (λb=>k1 a.2 b.2) λb=>absurd (n▸a.1) (b.1▸xu _)) λa=>(mW k).elim (λb=>absurd b.1 (n▸a.1▸xu _)) λb=>k2 a.2 b.2
def Own.set(x:Own c ρ st h){i:Nat}{o o':O}{p:Addr×Addr}(C:Nk o=false)(e:st[i]? =some o)(q:ρ[i]? =some p)(d:∀b,b≠p.1->b≠p.2->h'.get? b=h.get? b)
  (A:OR c ρ h' o' p):Own c ρ (st.set i o') h'/\Post ρ ρ h h':=by
 have al:=(x.rep i o p e q).alive;have v:bw h h':=λy vs n g=>by
  rw [d y (λz=>al.1.elim λG k=>k.2 vs n (fE (k.1.symm.trans (z▸g)))) (λz=>al.2.elim λG k=>k.2 vs n (fE (k.1.symm.trans (z▸g))))];exact g
 have pm:=nR q;refine⟨⟨by rw [vO];exact x.len,?_,x.Nm,?_,λa ob g=> ?_⟩,⟨bS _,λa ob g n J=> ?_,λa z=> .inl z,v⟩⟩
 .intro j u t m l;by_cases f:i=j
  .subst f;rw [q]at l;cases l;rw [vN (List.getElem?_eq_some_iff.mp e).1]at m;cases m;exact A
  .rw [j7 f]at m;refine qs (x.Nm i j p t q l f) λE D d3 H=> ?_;exact(x.rep j u t m l).mono (bS _) v (d _ E.symm d3.symm) (d _ D.symm H.symm)
 .intro j u t m l I;by_cases f:i=j
  .subst f;rw [q]at l;cases l;exact x.base i o p e q C
  .rw [j7 f]at m;exact x.base j u t m l I
 .have w:=x.base i o p e q C;rw [d a (nn w.1 g) (nn w.2 g)];exact x.keep a ob g
 .rw [d a (λz=>n ⟨p,pm,.inl z⟩) (λz=>n ⟨p,pm,.inr z⟩)];exact g
def Own.new(x:Own c ρ st h){o:O}{p:Addr×Addr}(A:∀a ob,h.get? a=some ob->h'.get? a=some ob)(f1:h.get? p.1=none)(C:h.get? p.2=none)(M:OR c (ρ++ [p]) h' o p):
  Own c (ρ++ [p]) (st++ [o]) h'/\Post ρ (ρ++ [p]) h h':=by
 have I:bw h h':=λy vs n g=>A _ _ g;have J:ρ <+: ρ++ [p]:=eE _ _;have fr:∀q ∈ ρ,q.1≠p.1/\q.1≠p.2/\q.2≠p.1/\q.2≠p.2:=λq m=>
  (x.alive ⟨q,m,.inl rfl⟩).elim λt g1=>(x.alive ⟨q,m,.inr rfl⟩).elim λt g2=>⟨nn f1 g1.1,nn C g1.1,nn f1 g2.1,nn C g2.1⟩
 refine⟨⟨by rw [cC,cC,x.len];rfl,λj H G l k=>Lq x.len.symm l k (λl k=> ?_) (λN E=>N.symm.rec (E.symm.rec M)),λi j a b Q qb D=> ?_,λj H G l k U=>Lq x.len.symm l k (λl k=>x.base j H G l k U) (λt E=> ?_),λa ob g=>A _ _ (x.keep _ _ g)⟩,⟨J,λa ob g t t=>A _ _ g,λa w=> ?_,I⟩⟩
 .have r:=x.rep j H G l k;exact r.alive.1.elim λt g1=>r.alive.2.elim λt g2=>r.mono J I ((A _ _ g1.1).trans g1.1.symm) ((A _ _ g2.1).trans g2.1.symm)
 .refine(mW Q).elim (λu=>(mW qb).elim (λv=>x.Nm i j a b u.2 v.2 D) λv=> ?_) λu=>(mW qb).elim (λv=> ?_) λv=>absurd (u.1.trans v.1.symm) D
  .rw [v.2];exact fr a (nR u.2)
  .have d:=fr b (nR v.2);rw [u.2];exact⟨d.1.symm,d.2.2.1.symm,d.2.1.symm,d.2.2.2.symm⟩
 .have L:∀{y:Addr},h.get? y=none->c.b0.get? y=none:=λ{y} f=>Option.eq_none_iff_forall_not_mem.mpr λob z=>oo (f.symm.trans (x.keep _ _ z));rw [E];exact⟨L f1,L C⟩
 .exact w.elim λq e=>(List.mem_append.mp e.1).elim (λm=> .inl ⟨q,m,e.2⟩) λm=> .inr (.inl (by
   have e:=e.2;rw [List.mem_singleton.mp m]at e;exact e.elim (λz=>z▸f1) λz=>z▸C))
end
abbrev KV:=V->St->Prop
abbrev KS:=Fl->Loc->St->Prop
abbrev aR:=Nat->List V->St->KV->Prop
noncomputable def bY(st:St):V->Option Bool
 | .none=>some false
 | .bool b=>some b
 | .int i=>some (decide (i≠0))
 | .ref a=>match st[a]? with
  |some (.list xs)=>some (!xs.isEmpty)
  |_=>none
 |_=>none
def tr(K:Bool->St->Prop):KV:=λv st=>match bY st v with
 |some b=>K b st
 |none=>False
noncomputable def Ag:Option Bool->Option Bool->Option Bool
 |some x,some y=>some (x&&y)
 |_,_=>none
def Cr{p q:Option Bool}{x:Bool}{P:Prop}(h:Ag p q=some x)(k:∀y z,p=some y->q=some z->x=(y&&z)->P):P:=by
 cases p with
 |none=>exact oo h
 |some y=>cases q with
  |none=>exact oo h
  |some z=>exact k y z rfl rfl (fE h).symm
def kq(f:V->V->Option Bool):List V->List V->Option Bool
 | [],[]=>some true
 | [],_::_=>some false
 |_::_,[]=>some false
 |a::l,b::l'=>Ag (f a b) (kq f l l')
noncomputable def N7(t:List V->List V->Option Bool)(a b:V):Option Bool:=match a,b with
 | .none,.none=>some true
 | .bool a,.bool b=>some (a==b)
 | .int a,.int b=>some (a==b)
 | .tup l,.tup l'=>t l l'
 |_,_=>none
def vEq:Nat->V->V->Option Bool
 |0=>N7 λa a=>none
 |n+1=>N7 (kq (vEq n))
@[elab_as_elim] def Cs{t:List V->List V->Option Bool}{a b:V}{x:Bool}{P:V->V->Bool->Prop}(e:N7 t a b=some x)(k0:P .none .none true)(k1:∀p q,P (.bool p) (.bool q) (p==q))(k2:∀p q,P (.int p) (.int q) (p==q))(k3:∀l l',t l l'=some x->P (.tup l) (.tup l') x):P a b x:=by
 cases a<;>first |exact oo e |skip
 all_goals cases b<;>first |exact oo e |exact k3 _ _ e |(cases fE e;first |exact k0 |exact k1 _ _ |exact k2 _ _)
@[elab_as_elim] def Hx{n:Nat}{a b:V}{x:Bool}{P:V->V->Bool->Prop}(e:vEq n a b=some x)(k0:P .none .none true)(k1:∀p q,P (.bool p) (.bool q) (p==q))(k2:∀p q,P (.int p) (.int q) (p==q))(k3:∀m l l',n=m+1->kq (vEq m) l l'=some x->P (.tup l) (.tup l') x):P a b x:=by
 cases n with
 |zero=>exact Cs e k0 k1 k2 λl l' h=>oo h
 |succ m=>exact Cs e k0 k1 k2 λl l' h=>k3 m l l' rfl h
def Ak(f:V->V->Option Bool):kq f [] []=some true:=rfl
def wM(f:V->V->Option Bool)(a b:V)(l l':List V):kq f (a::l) (b::l')=Ag (f a b) (kq f l l'):=rfl
def EO(n:Nat)(a b:Int):vEq n (.int a) (.int b)=some (a==b):=by cases n<;>rfl
def Lh(n:Nat)(l l':List V):vEq (n+1) (.tup l) (.tup l')=kq (vEq n) l l':=rfl
noncomputable def gK:List V->Option (List Int)
 | []=>some []
 | .int i::r=>(gK r).map (i::·)
 |_=>none
noncomputable def yF:V->Int×Int
 | .tup (.int a:: .int b::_)=>(a,b)
 |_=>(0,0)
def rowsOf(xs:List V):Option (List (Int×Int)):=if xs=(xs.map yF).map (λr=>V.tup [.int r.1,.int r.2,.tup []])then some (xs.map yF)else none
noncomputable def dj(a b:Int×Int):Bool:=a.1<b.1||(a.1==b.1&&a.2<=b.2)
def c_(a b:Int×Int):dj a b=true ↔ a.1<b.1\/(a.1=b.1/\a.2<=b.2):=by
 rw [dj,CP,decide_eq_true_iff,cM,beq_iff_eq,decide_eq_true_iff]
def jS(a b c:Int×Int)(h:dj a b=true)(h':dj b c=true):dj a c=true:=
 (c_ a c).mpr (((c_ a b).mp h).elim (λp=>((c_ b c).mp h').elim (λq=> .inl (Int.lt_trans p q)) λq=> .inl (q.1▸p)) λp=>((c_ b c).mp h').elim (λq=> .inl (p.1▸q)) λq=> .inr ⟨p.1.trans q.1,Int.le_trans p.2 q.2⟩)
def lP(a b:Int×Int):(dj a b||dj b a)=true:=
 Bool.or_eq_true_iff.mpr ((Int.lt_trichotomy a.1 b.1).elim (λp=> .inl ((c_ a b).mpr (.inl p))) λp=>p.elim (λp=>(Int.le_total a.2 b.2).elim (λq=> .inl ((c_ a b).mpr (.inr ⟨p,q⟩))) λq=> .inr ((c_ b a).mpr (.inr ⟨p.symm,q⟩))) λp=> .inr ((c_ b a).mpr (.inl p)))
def tn(a b:Int×Int)(h:dj a b=true)(h':dj b a=true):a=b:=
 ((c_ a b).mp h).elim (λp=>((c_ b a).mp h').elim (λq=>absurd q (Int.lt_asymm p)) λq=>absurd p (q.1▸AB _)) λp=>((c_ b a).mp h').elim (λq=>absurd q (p.1▸AB _)) λq=>Prod.ext p.1 (x_ p.2 q.2)
def pq(xs:List V):Option (List V):=if 63<xs.length then none else match gK xs with
 |some a=>some ((a.mergeSort).map .int)
 |none=>match rowsOf xs with
  |some rs=>some ((rs.mergeSort dj).map λp=> .tup [.int p.1,.int p.2,.tup []])
  |none=>none
noncomputable def iM:List V->Option (List Bool)
 | []=>some []
 | .bool b::r=>(iM r).map (b::·)
 |_=>none
structure It where
 bA:List V
 src:Option (Nat×List V)
def Src(src:Option (Nat×List V))(st:St):Prop:=match src with
 |some (a,xs)=>st[a]? =some (.list xs)
 |none=>True
noncomputable def eY(lo hi step:Int):List V:=(List.range ((hi-lo+step-1)/step).toNat).map λ(j:Nat)=>V.int (lo+(j:Int)*step)
def binI(op:uF)(x y:Int)(st:St)(K:KV):Prop:=match op with
 | .add=>K (.int (x+y)) st
 | .sub=>K (.int (x-y)) st
 | .mul=>(x.natAbs<2^63/\y.natAbs<2^63)/\K (.int (x*y)) st
 | .mod=>0<y/\K (.int (x%y)) st
 | .fdiv=>(0<y/\x.natAbs<2^63)/\K (.int (x/y)) st
 | .band=>K (.int (Builtin.bitAnd x y)) st
def fR(st:St)(x:Nat)(F:List V->Prop):Prop:=match st[x]? with
 |some (.list xs)=>F xs
 |_=>False
def two(st:St)(x y:Nat)(F:List V->List V->Prop):Prop:=fR st x λxs=>fR st y λys=>F xs ys
def jO(op:uF)(a b:V)(st:St)(K:KV):Prop:=match a,b with
 | .int x,.int y=>binI op x y st K
 | .ref x,.ref y=>(match op with
  | .add=>two st x y λxs ys=>xs.length+ys.length<=big/\K (.ref st.length) (st++ [.list (xs++ys)])
  |_=>False)
 |_,_=>False
noncomputable def b_(op:Be)(x y:Int):Bool:=match op with
 | .eq=>x==y | .ne=>x != y | .lt=>decide (x<y) | .gt=>decide (x>y) | .ge=>decide (x≥y) | .le=>decide (x<=y)
def D7(r:Option Bool)(F:Bool->Prop):Prop:=match r with
 |some b=>F b
 |none=>False
def j5(op:Be)(a b:V)(st:St)(K:KV):Prop:=match a,b with
 | .int x,.int y=>K (.bool (b_ op x y)) st
 | .bool x,.bool y=>(match op with
  | .eq=>K (.bool (x==y)) st
  | .ne=>K (.bool (x != y)) st
  |_=>False)
 | .tup l,.tup l'=>(match op with
  | .eq=>D7 (vEq 4 (.tup l) (.tup l')) λb=>K (.bool b) st
  |_=>False)
 | .ref x,.ref y=>(match op with
  | .eq=>two st x y λxs ys=>D7 (kq (vEq 4) xs ys) λb=>K (.bool b) st
  | .ne=>two st x y λxs ys=>D7 (kq (vEq 4) xs ys) λb=>K (.bool (!b)) st
  |_=>False)
 |_,_=>False
def zC{st:St}{x:Nat}{F:List V->Prop}{P:Prop}(h:fR st x F)(k:∀xs,st[x]? =some (.list xs)->F xs->P):P:=by
 delta fR at h
 cases e:st[x]? with
 |none=>rw [e]at h;exact False.elim h
 |some o=>rw [e]at h;cases o<;>first |exact False.elim h |exact k _ e h
def A2{st:St}{x y:Nat}{F:List V->List V->Prop}{P:Prop}(h:two st x y F)(k:∀xs ys,st[x]? =some (.list xs)->st[y]? =some (.list ys)->F xs ys->P):P:=
 zC h λxs b h=>zC h λys a h=>k xs ys b a h
def QE{st:St}{x:Nat}{F:List V->Prop}{xs:List V}(a:st[x]? =some (.list xs))(h:F xs):fR st x F:=by
 delta fR;rw [a];exact h
def A3{r:Option Bool}{F:Bool->Prop}{P:Prop}(h:D7 r F)(k:∀b,r=some b->F b->P):P:=by
 cases r with
 |none=>exact False.elim h
 |some b=>exact k b rfl h
@[elab_as_elim] def KA{st:St}{K:KV}{P:uF->V->V->Prop}{op:uF}{a b:V}(h:jO op a b st K)(k0:∀op x y,binI op x y st K->P op (.int x) (.int y))
  (k1:∀x y,two st x y (λxs ys=>xs.length+ys.length<=big/\K (.ref st.length) (st++ [.list (xs++ys)]))->P .add (.ref x) (.ref y)):P op a b:=by
 cases a<;>first |exact False.elim h |skip
 all_goals cases b<;>first |exact False.elim h |exact k0 _ _ _ h |(cases op<;>first |exact False.elim h |exact k1 _ _ h)
@[elab_as_elim] def KD{st:St}{K:KV}{P:Be->V->V->Prop}{op:Be}{a b:V}(h:j5 op a b st K)(k0:∀op x y,K (.bool (b_ op x y)) st->P op (.int x) (.int y))
  (k1:∀x y,K (.bool (x==y)) st->P .eq (.bool x) (.bool y)) (k2:∀x y,K (.bool (x != y)) st->P .ne (.bool x) (.bool y)) (k3:∀l l' b,vEq 4 (.tup l) (.tup l')=some b->K (.bool b) st->P .eq (.tup l) (.tup l'))
  (k4:∀x y xs ys b,st[x]? =some (.list xs)->st[y]? =some (.list ys)->kq (vEq 4) xs ys=some b->K (.bool b) st->P .eq (.ref x) (.ref y))
  (k5:∀x y xs ys b,st[x]? =some (.list xs)->st[y]? =some (.list ys)->kq (vEq 4) xs ys=some b->K (.bool (!b)) st->P .ne (.ref x) (.ref y)):P op a b:=by
 cases a<;>first |exact False.elim h |skip
 all_goals cases b<;>first |exact False.elim h |exact k0 _ _ _ h |(cases op<;>first |exact False.elim h |exact k1 _ _ h |exact k2 _ _ h |exact A3 h λb e h=>k3 _ _ b e h |exact A2 h λxs ys d c h=>A3 h λb e h=>k4 _ _ xs ys b d c e h |exact A2 h λxs ys d c h=>A3 h λb e h=>k5 _ _ xs ys b d c e h)
def compLoop(e:Loc->St->KV->Prop)(d:Loc->St->(Bool->St->Prop)->Prop)(x:Nat)(src:Option (Nat×List V))(a:Nat)(m:Loc):List V->List V->St->KV->Prop
 | [],_,st,K=>Src src st/\K (.ref a) st
 |v::r,ys,st,K=>Src src st/\d (m.set x (some v)) st λb st=>match b with
  |true=>e (m.set x (some v)) st λw c=>c[a]? =some (.list ys)/\ys.length<big/\compLoop e d x src a m r (ys++ [w]) (c.set a (.list (ys++ [w]))) K
  |false=>compLoop e d x src a m r ys st K
mutual
def vE(C:aR):IE->Loc->St->KV->Prop
 | .stuck,_,_,_=>False
 | .l i,m,st,K=>match m[i]? with
  |some (some v)=>K v st
  |_=>False
 | .t v,_,st,K=>K v st
 | .g g,_,st,K=>K (bU g) st
 | .neg n,_,st,K=>K (.int (-(n:Int))) st
 | .attr e f,m,st,K=>vE C e m st λv st=>match v with
  | .ref a=>match st[a]? with
   |some (.inst _ p)=>match p.lookup f with
    |some v=>K v st
    |none=>False
   |_=>False
  |_=>False
 | .call f d,m,st,K=>vL C d m st λvs st=>C f vs st K
 | .new k d,m,st,K=>vL C d m st λvs st=>match cT k with
  |some f=>C f (.ref st.length::vs) (st++ [.inst k []]) λv z=>v= .none/\K (.ref st.length) z
  |none=>vs=[]/\K (.ref st.length) (st++ [.inst k []])
 | .kN e f d,m,st,K=>vE C e m st λo st=>match o with
  | .ref a=>match st[a]? with
   |some (.inst k p)=>match p.lookup f,fj k f with
    |none,some g=>g<60/\vL C d m st λvs st=>C g (.ref a::vs) st K
    |_,_=>False
   |_=>False
  |_=>False
 | .append e x,m,st,K=>vE C e m st λo st=>match o with
  | .ref a=>match st[a]? with
   |some (.list _)=>vE C x m st λv st=>match st[a]? with
    |some (.list xs)=>xs.length<big/\K .none (st.set a (.list (xs++ [v])))
    |_=>False
   |_=>False
  |_=>False
 | .pop e,m,st,K=>vE C e m st λo st=>match o with
  | .ref a=>match st[a]? with
   |some (.list xs)=>match xs.getLast? with
    |some v=>K v (st.set a (.list xs.dropLast))
    |none=>False
   |_=>False
  |_=>False
 | .extend e x,m,st,K=>vE C e m st λo st=>match o with
  | .ref a=>match st[a]? with
   |some (.list _)=>vE C x m st λv st=>match v with
    | .ref b=>match st[a]?,st[b]? with
     |some (.list xs),some (.list ys)=>(a≠b/\xs.length+ys.length<=big)/\K .none (st.set a (.list (xs++ys)))
     |_,_=>False
    |_=>False
   |_=>False
  |_=>False
 | .len e,m,st,K=>vE C e m st λo st=>match o with
  | .ref a=>match st[a]? with
   |some (.list xs)=>K (.int xs.length) st
   |_=>False
  |_=>False
 | .sorted e,m,st,K=>vE C e m st λo st=>match o with
  | .ref a=>match st[a]? with
   |some (.list xs)=>match pq xs with
    |some ys=>K (.ref st.length) (st++ [.list ys])
    |none=>False
   |_=>False
  |_=>False
 | .yD e,m,st,K=>vE C e m st λo st=>match o with
  | .ref a=>match st[a]? with
   |some (.list xs)=>match iM xs with
    |some bs=>K (.bool (bs.any id)) st
    |none=>False
   |_=>False
  |_=>False
 | .qz e,m,st,K=>vE C e m st λo st=>match o with
  | .tup l=>l.length<=big/\K (.ref st.length) (st++ [.list l])
  |_=>False
 | .bin op a b,m,st,K=>vE C a m st λx st=>vE C b m st λy st=>jO op x y st K
 | .cmp op a b,m,st,K=>vE C a m st λx st=>vE C b m st λy st=>j5 op x y st K
 | .p_ neg e,m,st,K=>vE C e m st λv st=>match v with
  | .none=>K (.bool (!neg)) st
  |_=>K (.bool neg) st
 | .D0 e t,m,st,K=>vE C e m st λv st=>vE C t m st λw st=>match v,w with
  | .int i,.tup l=>match gK l with
   |some A=>K (.bool (A.contains i)) st
   |none=>False
  | .tup l,.ref a=>match st[a]? with
   |some (.dict [])=>jP 3 (.tup l)=true/\K (.bool false) st
   |some (.dU es)=>jP 3 (.tup l)=true/\K (.bool (es.any λe=>decide (e.1=l))) st
   |_=>False
  |_,_=>False
 | .dh d,m,st,K=>iB C d m st K
 | .qP d,m,st,K=>CH C d m st K
 | .ng e,m,st,K=>vE C e m st (tr λb st=>K (.bool (!b)) st)
 | .ite c a b,m,st,K=>vE C c m st (tr λt st=>match t with
  |true=>vE C a m st K
  |false=>vE C b m st K)
 | .sub o i,m,st,K=>vE C o m st λo st=>vE C i m st λi st=>match o,i with
  | .ref a,.int k=>match st[a]? with
   |some (.list xs)=>(-(2^62)<k/\k<2^62)/\(match xs[(if k<0 then k+xs.length else k).toNat]? with
    |some v=>0<=(if k<0 then k+xs.length else k)/\K v st
    |none=>False)
   |_=>False
  | .tup l,.int k=>0<=k/\k<2^62/\(match l[k.toNat]? with
   |some v=>K v st
   |none=>False)
  | .ref a,.str n=>match st[a]? with
   |some (.dict es)=>match es.lookup n with
    |some v=>n<NS/\K v st
    |none=>False
   |_=>False
  |_,_=>False
 | .Ni o a,m,st,K=>vE C o m st λo st=>vE C a m st λa st=>match o,a with
  | .ref x,.int k=>match st[x]? with
   |some (.list xs)=>(0<=k/\k<2^62)/\K (.ref st.length) (st++ [.list (xs.drop k.toNat)])
   |_=>False
  |_,_=>False
 | .Nj o b,m,st,K=>vE C o m st λo st=>vE C b m st λb st=>match o,b with
  | .ref x,.int k=>match st[x]? with
   |some (.list xs)=>(0<=k/\k<2^62)/\K (.ref st.length) (st++ [.list (xs.take k.toNat)])
   |some (.iw xs)=>(0<=k/\k<2^62)/\K (.ref st.length) (st++ [.list (xs.take k.toNat)])
   |_=>False
  |_,_=>False
 | .Ox o a b,m,st,K=>vE C o m st λo st=>vE C a m st λa st=>vE C b m st λb st=>match o,a,b with
  | .ref x,.int j,.int k=>match st[x]? with
   |some (.list xs)=>(0<=j/\j<=k/\k<=xs.length)/\K (.ref st.length) (st++ [.list ((xs.take k.toNat).drop j.toNat)])
   |_=>False
  |_,_,_=>False
 | .list d,m,st,K=>vL C d m st λvs st=>vs.length<=big/\K (.ref st.length) (st++ [.list vs])
 | .tup d,m,st,K=>vL C d m st λvs st=>K (.tup vs) st
 | .dict q d,m,st,K=>vL C d m st λvs st=>vs.length=q.length/\K (.ref st.length) (st++ [.dict (q.zip vs)])
 | .comp u x D cond,m,st,K=>vI C D m st λI h=>
  compLoop (λm st k=>vE C u m st k) (λm st k=>iB C cond m st (tr k)) x I.src h.length m I.bA [] (h++ [.list []]) K
def vL(C:aR):IL->Loc->St->(List V->St->Prop)->Prop
 | .z,_,st,K=>K [] st
 | .c e r,m,st,K=>vE C e m st λv st=>vL C r m st λvs st=>K (v::vs) st
def iB(C:aR):IL->Loc->St->KV->Prop
 | .z,_,st,K=>K (.bool true) st
 | .c e .z,m,st,K=>vE C e m st K
 | .c e (.c a r),m,st,K=>vE C e m st λv st=>match bY st v with
  |some true=>iB C (.c a r) m st K
  |some false=>K v st
  |none=>False
def CH(C:aR):IL->Loc->St->KV->Prop
 | .z,_,_,_=>False
 | .c e .z,m,st,K=>vE C e m st K
 | .c e (.c a r),m,st,K=>vE C e m st λv st=>match bY st v with
  |some false=>CH C (.c a r) m st K
  |some true=>K v st
  |none=>False
def vI(C:aR):II->Loc->St->(It->St->Prop)->Prop
 | .seq e,m,st,K=>vE C e m st λv st=>match v with
  | .ref a=>match st[a]? with
   |some (.list xs)=>K ⟨xs,some (a,xs)⟩ st
   |_=>False
  | .tup l=>K ⟨l,none⟩ st
  |_=>False
 | .range b,m,st,K=>vL C b m st λvs st=>match vs with
  | [.int hi]=>(hi.natAbs<2^62)/\K ⟨eY 0 hi 1,none⟩ st
  | [.int lo,.int hi,.int step]=>(lo.natAbs<2^62/\hi.natAbs<2^62/\0<step/\step<2^62)/\K ⟨eY lo hi step,none⟩ st
  |_=>False
 | .rev e,m,st,K=>vE C e m st λv st=>match v with
  | .ref a=>match st[a]? with
   |some (.list xs)=>K ⟨xs.reverse,some (a,xs)⟩ st
   |_=>False
  |_=>False
end
noncomputable def kM:List Nat->List V->Loc->Option Loc
 | [],[],m=>some m
 |i::a,v::vs,m=>kM a vs (m.set i (some v))
 | [],_::_,_=>none
 |_::_,[],_=>none
def kZ(a:List Nat)(v:V)(m:Loc):Option Loc:=match v with
 | .tup l=>kM a l m
 |_=>none
def cS(again:Loc->St->Prop)(K:KS):KS:=λfl m st=>match fl with
 | .next=>again m st
 | .cont=>again m st
 | .brk=>K .next m st
 | .ret v=>K (.ret v) m st
def bC(vb:Loc->St->KS->Prop)(bind:V->Loc->Option Loc)(src:Option (Nat×List V)):List V->Loc->St->KS->Prop
 | [],m,st,K=>Src src st/\K .next m st
 |v::r,m,st,K=>Src src st/\match bind v m with
  |some m'=>vb m' st (cS (λm st=>bC vb bind src r m st K) K)
  |none=>False
def dB(a:Loc->St->(Bool->St->Prop)->Prop)(vb:Loc->St->KS->Prop):Nat->Loc->St->KS->Prop
 |0,_,_,_=>False
 |n+1,m,st,K=>a m st λb st=>match b with
  |true=>vb m st (cS (λm st=>dB a vb n m st K) K)
  |false=>K .next m st
noncomputable def putL(n:Nat)(v:V):List (Nat×V)->List (Nat×V)
 | []=>[(n,v)]
 |(k,w)::r=>if k=n then(k,v)::r else(k,w)::putL n v r
mutual
def vS(C:aR):IS->Loc->St->KS->Prop
 | .a i e,m,st,K=>vE C e m st λv st=>K .next (m.set i (some v)) st
 | .Lp d e,m,st,K=>vE C e m st λv st=>match kZ d v m with
  |some m'=>K .next m' st
  |none=>False
 | .qU o f e,m,st,K=>vE C e m st λv st=>vE C o m st λo st=>match o with
  | .ref a=>match st[a]? with
   |some (.inst k h)=>(fj k f=none/\h.length<500)/\K .next m (st.set a (.inst k (putL f v h)))
   |_=>False
  |_=>False
 | .sN o i e,m,st,K=>vE C e m st λv st=>vE C o m st λo st=>vE C i m st λi st=>match o,i with
  | .ref a,.int k=>match st[a]? with
   |some (.list xs)=>(0<=k/\k<xs.length)/\K .next m (st.set a (.list (xs.set k.toNat v)))
   |_=>False
  | .ref a,.str n=>match st[a]? with
   |some (.dict es)=>(es.length<500/\n<NS)/\K .next m (st.set a (.dict (putL n v es)))
   |_=>False
  | .ref a,.tup l=>match st[a]? with
   |some (.dict [])=>jP 3 (.tup l)=true/\K .next m (st.set a (.dU [(l,v)]))
   |some (.dU es)=>(jP 3 (.tup l)=true/\es.length<500/\(es.any λe=>decide (e.1=l))=false)/\K .next m (st.set a (.dU (es++ [(l,v)])))
   |_=>False
  |_,_=>False
 | .aug i op e,m,st,K=>match m[i]? with
  |some (some x)=>vE C e m st λy st=>match op,x,y with
   | .add,.int a,.int b=>K .next (m.set i (some (.int (a+b)))) st
   | .sub,.int a,.int b=>K .next (m.set i (some (.int (a-b)))) st
   |_,_,_=>False
  |_=>False
 | .ex e,m,st,K=>vE C e m st λj st=>K .next m st
 | .ret e,m,st,K=>vE C e m st λv st=>K (.ret v) m st
 | .AD,m,st,K=>K (.ret .none) m st
 | .pass,m,st,K=>K .next m st
 | .ite c t f,m,st,K=>vE C c m st (tr λb st=>match b with
  |true=>vB C t m st K
  |false=>vB C f m st K)
 | .gI i g b,m,st,K=>vI C g m st λI st=>bC (λm st k=>vB C b m st k) (λv m=>some (m.set i (some v))) I.src I.bA m st K
 | .yv d g b,m,st,K=>vI C g m st λI st=>bC (λm st k=>vB C b m st k) (kZ d) I.src I.bA m st K
 | .gz c b,m,st,K=>∃n,dB (λm st k=>vE C c m st (tr k)) (λm st k=>vB C b m st k) n m st K
def vB(C:aR):IB->Loc->St->KS->Prop
 | .z,m,st,K=>K .next m st
 | .c s r,m,st,K=>vS C s m st λfl m st=>match fl with
  | .next=>vB C r m st K
  |fl=>K fl m st
end
def rW(f:Nat)(vs:List V):Loc:=vs.map some++List.replicate (QF f-iR f) none
noncomputable def fill(f:Nat)(vs:List V):List V:=if f=18/\vs.length=1 then vs++ [.str 0]else vs
def aq:Nat->aR
 |0=>λa a a a=>False
 |d+1=>λf vs st K=>(f<60/\(fill f vs).length=iR f)/\vB (aq d) (Cu f) (rW f (fill f vs)) st λfl a st=>match fl with
  | .ret v=>K v st
  | .next=>K .none st
  |_=>False
section
variable(C:aR)(x:Loc)(x_1:St)(x_2:KV)
def Uh:vE C IE.stuck x x_1 x_2=False:=rfl
def bq(i:Nat):
 vE C (IE.l i) x x_1 x_2=
  match x[i]? with
  |some (some v)=>x_2 v x_1
  |x=>False:=rfl
def bV(v:V):vE C (IE.t v) x x_1 x_2=x_2 v x_1:=rfl
def iU(g:Nat):vE C (IE.g g) x x_1 x_2=x_2 (bU g) x_1:=rfl
def RU(n:Nat):vE C (IE.neg n) x x_1 x_2=x_2 (V.int (-↑n)) x_1:=rfl
def Pc(e:IE)(f:Nat):
 vE C (e.attr f) x x_1 x_2=
  vE C e x x_1 λv st=>
   match v with
   |V.ref a=>
    match st[a]? with
    |some (O.inst c b)=>
     match List.lookup f b with
     |some v=>x_2 v st
     |none=>False
    |x=>False
   |x=>False:=rfl
def cJ(f:Nat)(a:IL):vE C (IE.call f a) x x_1 x_2=vL C a x x_1 λvs st=>C f vs st x_2:=rfl
def sZ(k:Nat)(a:IL):
 vE C (IE.new k a) x x_1 x_2=
  vL C a x x_1 λvs st=>
   match cT k with
   |some f=>C f (V.ref (List.length st)::vs) (st++ [O.inst k []]) λv b=>v=V.none/\x_2 (V.ref (List.length st)) b
   |none=>vs=[]/\x_2 (V.ref (List.length st)) (st++ [O.inst k []]):=rfl
def Ui(e:IE)(f:Nat)(b:IL):
 vE C (e.kN f b) x x_1 x_2=
  vE C e x x_1 λo st=>
   match o with
   |V.ref a=>
    match st[a]? with
    |some (O.inst k c)=>
     match List.lookup f c,fj k f with
     |none,some g=>g<60/\vL C b x st λvs st=>C g (V.ref a::vs) st x_2
     |x,d=>False
    |x=>False
   |x=>False:=rfl
def iV(e b:IE):
 vE C (e.append b) x x_1 x_2=
  vE C e x x_1 λo st=>
   match o with
   |V.ref a=>
    match st[a]? with
    |some (O.list xs)=>
     vE C b x st λv st=>
      match st[a]? with
      |some (O.list xs)=>xs.length<big/\x_2 V.none (List.set st a (O.list (xs++ [v])))
      |x=>False
    |x=>False
   |x=>False:=rfl
def D8(e:IE):
 vE C e.pop x x_1 x_2=
  vE C e x x_1 λo st=>
   match o with
   |V.ref a=>
    match st[a]? with
    |some (O.list xs)=>
     match xs.getLast? with
     |some v=>x_2 v (List.set st a (O.list xs.dropLast))
     |none=>False
    |x=>False
   |x=>False:=rfl
def Pb(e c:IE):
 vE C (e.extend c) x x_1 x_2=
  vE C e x x_1 λo st=>
   match o with
   |V.ref a=>
    match st[a]? with
    |some (O.list xs)=>
     vE C c x st λv st=>
      match v with
      |V.ref b=>
       match st[a]?,st[b]? with
       |some (O.list xs),some (O.list ys)=>(a≠b/\xs.length+ys.length<=big)/\x_2 V.none (List.set st a (O.list (xs++ys)))
       |x,d=>False
      |x=>False
    |x=>False
   |x=>False:=rfl
def jh(e:IE):
 vE C e.len x x_1 x_2=
  vE C e x x_1 λo st=>
   match o with
   |V.ref a=>
    match st[a]? with
    |some (O.list xs)=>x_2 (V.int ↑xs.length) st
    |x=>False
   |x=>False:=rfl
def uT(e:IE):
 vE C e.sorted x x_1 x_2=
  vE C e x x_1 λo st=>
   match o with
   |V.ref a=>
    match st[a]? with
    |some (O.list xs)=>
     match pq xs with
     |some ys=>x_2 (V.ref (List.length st)) (st++ [O.list ys])
     |none=>False
    |x=>False
   |x=>False:=rfl
def Pq(e:IE):
 vE C e.yD x x_1 x_2=
  vE C e x x_1 λo st=>
   match o with
   |V.ref a=>
    match st[a]? with
    |some (O.list xs)=>
     match iM xs with
     |some bs=>x_2 (V.bool (bs.any id)) st
     |none=>False
    |x=>False
   |x=>False:=rfl
def PU(e:IE):
 vE C e.qz x x_1 x_2=
  vE C e x x_1 λo st=>
   match o with
   |V.tup l=>l.length<=big/\x_2 (V.ref (List.length st)) (st++ [O.list l])
   |x=>False:=rfl
def j8(op:uF)(a b:IE):vE C (IE.bin op a b) x x_1 x_2=vE C a x x_1 λc st=>vE C b x st λy st=>jO op c y st x_2:=rfl
def d_(op:Be)(a b:IE):vE C (IE.cmp op a b) x x_1 x_2=vE C a x x_1 λc st=>vE C b x st λy st=>j5 op c y st x_2:=rfl
def nv(neg:Bool)(e:IE):
 vE C (IE.p_ neg e) x x_1 x_2=
  vE C e x x_1 λv st=>
   match v with
   |V.none=>x_2 (V.bool !neg) st
   |x=>x_2 (V.bool neg) st:=rfl
def K_(e t:IE):
 vE C (e.D0 t) x x_1 x_2=
  vE C e x x_1 λv st=>
   vE C t x st λw st=>
    match v,w with
    |V.int i,V.tup l=>
     match gK l with
     |some b=>x_2 (V.bool (b.contains i)) st
     |none=>False
    |V.tup l,V.ref a=>
     match st[a]? with
     |some (O.dict [])=>jP 3 (V.tup l)=true/\x_2 (V.bool false) st
     |some (O.dU es)=>jP 3 (V.tup l)=true/\x_2 (V.bool (es.any λe=>decide (e.fst=l))) st
     |x=>False
    |x,c=>False:=rfl
def sq(a:IL):vE C (IE.dh a) x x_1 x_2=iB C a x x_1 x_2:=rfl
def xZ(a:IL):vE C (IE.qP a) x x_1 x_2=CH C a x x_1 x_2:=rfl
def uY(e:IE):vE C e.ng x x_1 x_2=vE C e x x_1 (tr λb st=>x_2 (V.bool !b) st):=rfl
def D_(c a b:IE):
 vE C (c.ite a b) x x_1 x_2=
  vE C c x x_1
   (tr λt st=>
    match t with
    |true=>vE C a x st x_2
    |false=>vE C b x st x_2):=rfl
def jH(o i:IE):
 vE C (o.sub i) x x_1 x_2=
  vE C o x x_1 λo st=>
   vE C i x st λi st=>
    match o,i with
    |V.ref a,V.int k=>
     match st[a]? with
     |some (O.list xs)=>
      (-2^62<k/\k<2^62)/\
       match xs[(if k<0 then k+↑xs.length else k).toNat]? with
       |some v=>(0<=if k<0 then k+↑xs.length else k)/\x_2 v st
       |none=>False
     |x=>False
    |V.tup l,V.int k=>
     0<=k/\
      k<2^62/\
       match l[k.toNat]? with
       |some v=>x_2 v st
       |none=>False
    |V.ref a,V.str n=>
     match st[a]? with
     |some (O.dict es)=>
      match List.lookup n es with
      |some v=>n<NS/\x_2 v st
      |none=>False
     |x=>False
    |x,b=>False:=rfl
def Lj(o a:IE):
 vE C (o.Ni a) x x_1 x_2=
  vE C o x x_1 λo st=>
   vE C a x st λa st=>
    match o,a with
    |V.ref x,V.int k=>
     match st[x]? with
     |some (O.list xs)=>(0<=k/\k<2^62)/\x_2 (V.ref (List.length st)) (st++ [O.list (List.drop k.toNat xs)])
     |x=>False
    |x,b=>False:=rfl
def Ll(o b:IE):
 vE C (o.Nj b) x x_1 x_2=
  vE C o x x_1 λo st=>
   vE C b x st λb st=>
    match o,b with
    |V.ref x,V.int k=>
     match st[x]? with
     |some (O.list xs)=>(0<=k/\k<2^62)/\x_2 (V.ref (List.length st)) (st++ [O.list (List.take k.toNat xs)])
     |some (O.iw xs)=>(0<=k/\k<2^62)/\x_2 (V.ref (List.length st)) (st++ [O.list (List.take k.toNat xs)])
     |x=>False
    |x,a=>False:=rfl
def Pk(o a b:IE):
 vE C (o.Ox a b) x x_1 x_2=
  vE C o x x_1 λo st=>
   vE C a x st λa st=>
    vE C b x st λb st=>
     match o,a,b with
     |V.ref x,V.int j,V.int k=>
      match st[x]? with
      |some (O.list xs)=>(0<=j/\j<=k/\k<=↑xs.length)/\x_2 (V.ref (List.length st)) (st++ [O.list (List.drop j.toNat (List.take k.toNat xs))])
      |x=>False
     |x,c,d=>False:=rfl
def fQ(a:IL):vE C (IE.list a) x x_1 x_2=vL C a x x_1 λvs st=>vs.length<=big/\x_2 (V.ref (List.length st)) (st++ [O.list vs]):=rfl
def yh(a:IL):vE C (IE.tup a) x x_1 x_2=vL C a x x_1 λvs st=>x_2 (V.tup vs) st:=rfl
def Ff(a:List Nat)(b:IL):vE C (IE.dict a b) x x_1 x_2=vL C b x x_1 λvs st=>vs.length=a.length/\x_2 (V.ref (List.length st)) (st++ [O.dict (a.zip vs)]):=rfl
def ig(a:IE)(c:Nat)(d:II)(cond:IL):vE C (a.comp c d cond) x x_1 x_2=vI C d x x_1 λI b=>compLoop (λm st k=>vE C a m st k) (λm st k=>iB C cond m st (tr k)) c I.src (List.length b) x I.bA [] (b++ [O.list []]) x_2:=rfl
def cy(x_2:List V->St->Prop):vL C IL.z x x_1 x_2=x_2 [] x_1:=rfl
def aW(x_2:List V->St->Prop)(e:IE)(r:IL):vL C (IL.c e r) x x_1 x_2=vE C e x x_1 λv st=>vL C r x st λvs st=>x_2 (v::vs) st:=rfl
def nX:iB C IL.z x x_1 x_2=x_2 (V.bool true) x_1:=rfl
def jd(e:IE):iB C (IL.c e IL.z) x x_1 x_2=vE C e x x_1 x_2:=rfl
def nP(e a:IE)(r:IL):
 iB C (IL.c e (IL.c a r)) x x_1 x_2=
  vE C e x x_1 λv st=>
   match bY st v with
   |some true=>iB C (IL.c a r) x st x_2
   |some false=>x_2 v st
   |none=>False:=rfl
def Tw:CH C IL.z x x_1 x_2=False:=rfl
def x9(e:IE):CH C (IL.c e IL.z) x x_1 x_2=vE C e x x_1 x_2:=rfl
def uJ(e a:IE)(r:IL):
 CH C (IL.c e (IL.c a r)) x x_1 x_2=
  vE C e x x_1 λv st=>
   match bY st v with
   |some false=>CH C (IL.c a r) x st x_2
   |some true=>x_2 v st
   |none=>False:=rfl
def h_(x_2:It->St->Prop)(e:IE):
 vI C (II.seq e) x x_1 x_2=
  vE C e x x_1 λv st=>
   match v with
   |V.ref a=>
    match st[a]? with
    |some (O.list xs)=>x_2 {bA:=xs,src:=some (a,xs)} st
    |x=>False
   |V.tup l=>x_2 {bA:=l,src:=none} st
   |x=>False:=rfl
def C4(x_2:It->St->Prop)(a:IL):
 vI C (II.range a) x x_1 x_2=
  vL C a x x_1 λvs st=>
   match vs with
   | [V.int hi]=>hi.natAbs<2^62/\x_2 {bA:=eY 0 hi 1,src:=none} st
   | [V.int lo,V.int hi,V.int step]=>(lo.natAbs<2^62/\hi.natAbs<2^62/\0<step/\step<2^62)/\x_2 {bA:=eY lo hi step,src:=none} st
   |x=>False:=rfl
def L0(x_2:It->St->Prop)(e:IE):
 vI C (II.rev e) x x_1 x_2=
  vE C e x x_1 λv st=>
   match v with
   |V.ref a=>
    match st[a]? with
    |some (O.list xs)=>x_2 {bA:=xs.reverse,src:=some (a,xs)} st
    |x=>False
   |x=>False:=rfl
def cL(x_2:KS)(i:Nat)(e:IE):vS C (IS.a i e) x x_1 x_2=vE C e x x_1 λv st=>x_2 Fl.next (List.set x i (some v)) st:=rfl
def Uj(x_2:KS)(a:List Nat)(e:IE):
 vS C (IS.Lp a e) x x_1 x_2=
  vE C e x x_1 λv st=>
   match kZ a v x with
   |some m'=>x_2 Fl.next m' st
   |none=>False:=rfl
def Aa(x_2:KS)(o:IE)(f:Nat)(e:IE):
 vS C (IS.qU o f e) x x_1 x_2=
  vE C e x x_1 λv st=>
   vE C o x st λo st=>
    match o with
    |V.ref a=>
     match st[a]? with
     |some (O.inst k b)=>(fj k f=none/\b.length<500)/\x_2 Fl.next x (List.set st a (O.inst k (putL f v b)))
     |x=>False
    |x=>False:=rfl
def Pf(x_2:KS)(o i e:IE):
 vS C (IS.sN o i e) x x_1 x_2=
  vE C e x x_1 λv st=>
   vE C o x st λo st=>
    vE C i x st λi st=>
     match o,i with
     |V.ref a,V.int k=>
      match st[a]? with
      |some (O.list xs)=>(0<=k/\k<↑xs.length)/\x_2 Fl.next x (List.set st a (O.list (xs.set k.toNat v)))
      |x=>False
     |V.ref a,V.str n=>
      match st[a]? with
      |some (O.dict es)=>(es.length<500/\n<NS)/\x_2 Fl.next x (List.set st a (O.dict (putL n v es)))
      |x=>False
     |V.ref a,V.tup l=>
      match st[a]? with
      |some (O.dict [])=>jP 3 (V.tup l)=true/\x_2 Fl.next x (List.set st a (O.dU [(l,v)]))
      |some (O.dU es)=>(jP 3 (V.tup l)=true/\es.length<500/\(es.any λe=>decide (e.fst=l))=false)/\x_2 Fl.next x (List.set st a (O.dU (es++ [(l,v)])))
      |x=>False
     |x,b=>False:=rfl
def RN(x_2:KS)(i:Nat)(op:uF)(e:IE):
 vS C (IS.aug i op e) x x_1 x_2=
  match x[i]? with
  |some (some c)=>
   vE C e x x_1 λy st=>
    match op,c,y with
    |uF.add,V.int a,V.int b=>x_2 Fl.next (List.set x i (some (V.int (a+b)))) st
    |uF.sub,V.int a,V.int b=>x_2 Fl.next (List.set x i (some (V.int (a-b)))) st
    |x,f,d=>False
  |x=>False:=rfl
def gy(x_2:KS)(e:IE):vS C (IS.ex e) x x_1 x_2=vE C e x x_1 λa st=>x_2 Fl.next x st:=rfl
def fZ(x_2:KS)(e:IE):vS C (IS.ret e) x x_1 x_2=vE C e x x_1 λv st=>x_2 (Fl.ret v) x st:=rfl
def RY(x_2:KS):vS C IS.AD x x_1 x_2=x_2 (Fl.ret V.none) x x_1:=rfl
def Uk(x_2:KS):vS C IS.pass x x_1 x_2=x_2 Fl.next x x_1:=rfl
def j6(x_2:KS)(c:IE)(t f:IB):
 vS C (IS.ite c t f) x x_1 x_2=
  vE C c x x_1
   (tr λb st=>
    match b with
    |true=>vB C t x st x_2
    |false=>vB C f x st x_2):=rfl
def iu(x_2:KS)(i:Nat)(a:II)(b:IB):vS C (IS.gI i a b) x x_1 x_2=vI C a x x_1 λI st=>bC (λm st k=>vB C b m st k) (λv m=>some (List.set m i (some v))) I.src I.bA x st x_2:=rfl
def Lf(x_2:KS)(c:List Nat)(a:II)(b:IB):vS C (IS.yv c a b) x x_1 x_2=vI C a x x_1 λI st=>bC (λm st k=>vB C b m st k) (kZ c) I.src I.bA x st x_2:=rfl
def Bl(x_2:KS)(c:IE)(b:IB):vS C (IS.gz c b) x x_1 x_2=∃n,dB (λm st k=>vE C c m st (tr k)) (λm st k=>vB C b m st k) n x x_1 x_2:=rfl
def Ul(x_2:KS):vB C IB.z x x_1 x_2=x_2 Fl.next x x_1:=rfl
def Um(x_2:KS)(s:IS)(r:IB):
 vB C (IB.c s r) x x_1 x_2=
  vS C s x x_1 λfl m st=>
   match fl with
   |Fl.next=>vB C r m st x_2
   |fl=>x_2 fl m st:=rfl
def aQ(again:Loc->St->Prop)(K:KS)(m:Loc)(st:St):cS again K Fl.next m st=again m st:=rfl
def LF(again:Loc->St->Prop)(K:KS)(m:Loc)(st:St):cS again K Fl.cont m st=again m st:=rfl
def LG(again:Loc->St->Prop)(K:KS)(m:Loc)(st:St):cS again K Fl.brk m st=K Fl.next m st:=rfl
def jQ(again:Loc->St->Prop)(K:KS)(m:Loc)(st:St)(v:V):cS again K (Fl.ret v) m st=K (Fl.ret v) m st:=rfl
def QG(a:Loc->St->(Bool->St->Prop)->Prop)(vb:Loc->St->KS->Prop)(x:Loc)(x_1:St)(x_2:KS):dB a vb 0 x x_1 x_2=False:=rfl
def lI(a:Loc->St->(Bool->St->Prop)->Prop)(vb:Loc->St->KS->Prop)(x:Loc)(x_1:St)(x_2:KS)(n:Nat):
 dB a vb n.succ x x_1 x_2=
  a x x_1 λb st=>
   match b with
   |true=>vb x st (cS (λm st=>dB a vb n m st x_2) x_2)
   |false=>x_2 Fl.next x st:=rfl
def uO(vb:Loc->St->KS->Prop)(bind:V->Loc->Option Loc)(src:Option (Nat×List V))(x:Loc)(x_1:St)(x_2:KS):bC vb bind src [] x x_1 x_2=(Src src x_1/\x_2 Fl.next x x_1):=rfl
def uP(vb:Loc->St->KS->Prop)(bind:V->Loc->Option Loc)(src:Option (Nat×List V))(x:Loc)(x_1:St)(x_2:KS)(v:V)(r:List V):
 bC vb bind src (v::r) x x_1 x_2=
  (Src src x_1/\
   match bind v x with
   |some m'=>vb m' x_1 (cS (λm st=>bC vb bind src r m st x_2) x_2)
   |none=>False):=rfl
def N8(d:Loc->St->KV->Prop)(c:Loc->St->(Bool->St->Prop)->Prop)(x:Nat)(src:Option (Nat×List V))(b:Nat)(m:Loc)(x_1:List V)(x_2:St)(a:KV):compLoop d c x src b m [] x_1 x_2 a=(Src src x_2/\a (V.ref b) x_2):=rfl
def N9(e:Loc->St->KV->Prop)(d:Loc->St->(Bool->St->Prop)->Prop)(x:Nat)(src:Option (Nat×List V))(a:Nat)(m:Loc)(x_1:List V)(x_2:St)(c:KV)(v:V)(r:List V):
 compLoop e d x src a m (v::r) x_1 x_2 c=
  (Src src x_2/\
   d (List.set m x (some v)) x_2 λb st=>
    match b with
    |true=>e (List.set m x (some v)) st λw f=>f[a]? =some (O.list x_1)/\x_1.length<big/\compLoop e d x src a m r (x_1++ [w]) (List.set f a (O.list (x_1++ [w]))) c
    |false=>compLoop e d x src a m r x_1 st c):=rfl
def A4(n:Nat)(v:V):putL n v []=[(n,v)]:=rfl
def Fd(n:Nat)(v:V)(k:Nat)(w:V)(r:List (Nat×V)):putL n v ((k,w)::r)=if k=n then(k,v)::r else(k,w)::putL n v r:=rfl
def bv_add(x y:Int)(st:St)(K:KV):jO .add (.int x) (.int y) st K=K (.int (x+y)) st:=rfl
def zX(x y:Int)(st:St)(K:KV):jO .sub (.int x) (.int y) st K=K (.int (x-y)) st:=rfl
def MQ(x y:Int)(st:St)(K:KV):jO .mul (.int x) (.int y) st K=((x.natAbs<2^63/\y.natAbs<2^63)/\K (.int (x*y)) st):=rfl
def D9(x y:Int)(st:St)(K:KV):jO .mod (.int x) (.int y) st K=(0<y/\K (.int (x%y)) st):=rfl
def BN(x y:Int)(st:St)(K:KV):jO .fdiv (.int x) (.int y) st K=((0<y/\x.natAbs<2^63)/\K (.int (x/y)) st):=rfl
def I7(x y:Int)(st:St)(K:KV):jO .band (.int x) (.int y) st K=K (.int (Builtin.bitAnd x y)) st:=rfl
def E7(x y:Nat)(st:St)(K:KV):jO .add (.ref x) (.ref y) st K=two st x y λxs ys=>xs.length+ys.length<=big/\K (.ref st.length) (st++ [.list (xs++ys)]):=rfl
def cv(op:Be)(x y:Int)(st:St)(K:KV):j5 op (.int x) (.int y) st K=K (.bool (b_ op x y)) st:=rfl
def Un(x y:Bool)(st:St)(K:KV):j5 .eq (.bool x) (.bool y) st K=K (.bool (x==y)) st:=rfl
def Tz(x y:Bool)(st:St)(K:KV):j5 .ne (.bool x) (.bool y) st K=K (.bool (x != y)) st:=rfl
end
structure lA (d:Nat) (A:Around):Prop where
 handled:A.handled=none
 depth:A.depth+2*d<=700
 units:A.units+60*d<=6000
structure Dy (d:Nat) (A:Around):Prop where
 handled:A.handled=none
 depth:A.depth+2*d<=701
 units:A.units+60*d<=6030
def lA.Ls{d:Nat}{A:Around}(x:lA d A):Dy d A:=⟨x.handled,by have:=x.depth;exact dP this,by have:=x.units;exact zt this (zr 30)⟩
def lA.le{d b:Nat}{A:Around}(x:lA d A)(h:b<=d):lA b A:=⟨x.handled,by have:=x.depth;exact cD λa=>bx (jt _ _ _) (AN aE (AN aE (AN (AN bg (.mulL 2 aI)) (AN (.num 700) aA)))) (AN aI (AN aI (AN (.num 700) (AN bg (.mulL 2 aE))))) (aH h (aH h (aH this a))) rfl,by have:=x.units;exact cD λa=>bx (jt _ _ _) (AN (.mulL 60 aE) (AN (AN bg (.mulL 60 aI)) (AN (.num 6000) aA))) (AN (.mulL 60 aI) (AN (.num 6000) (AN bg (.mulL 60 aE)))) (aH (fJ 60 h) (aH this a)) rfl⟩
def lA.cu{d:Nat}{A:Around}(x:lA d A):A.units<cLine:=by have:=x.units;show A.units<9900;exact zt (zt (za (zr _) 1) (za this 1)) (bI rfl)
def Dy.room{d:Nat}{A:Around}(x:Dy d A):A.depth<recursionLimit:=by have:=x.depth;show A.depth<1000;exact zt (zt (za (zr _) 1) (za this 1)) (bI rfl)
def Dy.deeper{d:Nat}{A:Around}(x:Dy (d+1) A)(env:Env):lA d (A.deeper env):=⟨x.handled,by have:=x.depth;show A.depth+1+2*d<=700;exact cD λa=>bx (fL _ _) (AN (AN aE (.mulL 2 (AN aI aA))) (AN (.num 700) aA)) (AN (.num 701) (AN (AN aE aA) (.mulL 2 aI))) (aH this a) rfl,by have:=x.units;show A.units+3+60*d<=6000;exact cD λa=>bx (fL _ _) (AN (AN aE (.mulL 60 (AN aI aA))) (AN (.num 6000) aA)) (AN (.num 6030) (AN (AN aE (.num 3)) (.mulL 60 aI))) (aH this a) rfl⟩
structure Ctx where
 sl:Slots
 nm:List (Str×NameKind)
structure bk (c:Cfg) (env:Env) (Γ:Ctx) (ρ:dM) (m:Loc) (h:Heap):Prop where
 kind:env.scope.kind= .function
 glob:env.globals=mainGlobals
 blt:env.builtins=builtinsNs
 nm:env.scope.names=Γ.nm
 names:∀(i:Nat) (x:Str) (k:NameKind),Γ.sl[i]? =some (some (x,k))->env.kindOf x=some k/\(k= .local\/k= .cell)
 inj:∀(i j:Nat) (x:Str) (k k':NameKind),Γ.sl[i]? =some (some (x,k))->Γ.sl[j]? =some (some (x,k'))->i=j
 low:c.b0.get? env.locals=none/\∀p ∈ env.cells,c.b0.get? p.2=none
 own: ¬d7 ρ env.locals/\∀p ∈ env.cells,¬d7 ρ p.2
 sep:(∀p ∈ env.cells,p.2≠env.locals)/\∀p ∈ env.cells,∀q ∈ env.cells,p.2=q.2->p.1=q.1
 ns:∃mr,h.Ns env.locals mr/\∀(i:Nat) (x:Str) (v:V),Γ.sl[i]? =some (some (x,.local))->m[i]? =some (some v)->∃w,mr x=some w/\VR ρ h v w
 cells:∀(i:Nat) (x:Str),Γ.sl[i]? =some (some (x,.cell))->∃a ov,env.cells.lookup x=some a/\h.IsCell a ov/\∀v,m[i]? =some (some v)->∃w,ov=some w/\VR ρ h v w
 alive:∀p ∈ env.cells,∃ov,h.IsCell p.2 ov
def bk.jj{c:Cfg}{env:Env}{Γ:Ctx}{ρ n:dM}{m:Loc}{h h':Heap}{X:Addr->Prop}(x:bk c env Γ ρ m h)(p:bO X ρ n h h')(j: ¬X env.locals/\∀q ∈ env.cells,¬X q.2):bk c env Γ n m h':=by
 refine aB x.ns λG C H=> ?_;have D:∃o,h.get? env.locals=some o:=(vf C).elim λo g=>⟨o,g.1⟩;refine{kind:=x.kind,glob:=x.glob,blt:=x.blt,nm:=x.nm,names:=x.names,inj:=x.inj,low:=x.low,sep:=x.sep,own:=⟨?_,?_⟩,ns:=⟨G,?_,?_⟩,cells:= ?_,alive:= ?_}
 .intro q;refine ez D λo g=> ?_;refine a_ (p.new _ q) (λq=> ?_) λk=>a_ k (λq=> ?_) λq=> ?_
  .exact x.own.1 q
  .rw [q]at g;cases g
  .exact j.1 q
 .intro q b z;refine lM (x.alive q b) λl o g L=> ?_;refine a_ (p.new _ z) (λz=> ?_) λk=>a_ k (λz=> ?_) λz=> ?_
  .exact x.own.2 q b z
  .rw [z]at g;cases g
  .exact j.2 q b z
 .refine BR C λo es I g r=> ?_;exact⟨o,es,I,p.ext _ _ g x.own.1 j.1,r⟩
 .intro i y v u f;refine aB (H i y v u f) λw e r=> ?_;exact⟨w,e,r.mono p.pre p.tup⟩
 .intro i y u;refine aS (x.cells i y u) λa l f A E=> ?_;obtain ⟨o,g,t⟩:=A;refine⟨a,l,f,⟨o,p.ext _ _ g (x.own.2 (y,a) (mem_of_lookup f)) (j.2 (y,a) (mem_of_lookup f)),t⟩,λv J=> ?_⟩;refine aB (E v J) λw e r=> ?_;exact⟨w,e,r.mono p.pre p.tup⟩
 .intro q b;refine lM (x.alive q b) λl o g t=> ?_;exact⟨l,o,p.ext _ _ g (x.own.2 q b) (j.2 q b),t⟩
def bk.post{c:Cfg}{env:Env}{Γ:Ctx}{ρ a:dM}{m:Loc}{h h':Heap}(x:bk c env Γ ρ m h)(p:Post ρ a h h'):bk c env Γ a m h':=x.jj p ⟨id,λb b=>id⟩
def WE(c:Cfg)(d:Nat)(env:Env)(Γ:Ctx)(r:Expr)(m:Loc)(st:St)(K:KV):Prop:=
 ∀(A:Around) (ρ:dM) (s:Shared) (Q:Value->Shared->Prop) (E:Value->Shared->Prop),lA d A->Own c ρ st s.heap->bk c env Γ ρ m s.heap->
  (∀v b a h' e w,K v b->Post ρ a s.heap h'->Own c a b h'->VR a h' v w->Q w {s with heap:=h',toks:=e})->
  wpAny (model pw c.w) A (eval r env) Q E s
def WL(c:Cfg)(d:Nat)(env:Env)(Γ:Ctx)(rs:List Expr)(m:Loc)(st:St)(K:List V->St->Prop):Prop:=
 ∀(A:Around) (ρ:dM) (s:Shared) (pos:Pos) (Q:List Value->Shared->Prop) (E:Value->Shared->Prop),lA d A->Own c ρ st s.heap->bk c env Γ ρ m s.heap->
  (∀vs b a h' f e,K vs b->Post ρ a s.heap h'->Own c a b h'->cH a h' vs e->e.length=rs.length->Q e {s with heap:=h',toks:=f})->
  wpAny (model pw c.w) A (spliced (backTo pos (starEach rs env))) Q E s
section
variable{c:Cfg}{d:Nat}{env:Env}{Γ:Ctx}{m:Loc}{st:St}
def QI{i:Nat}{x:Str}{k:NameKind}{pos:Pos}{v:V}{K:KV}(f:Γ.sl[i]? =some (some (x,k)))(t:(x==("__debug__":Str))=false)(n:m[i]? =some (some v))(p:K v st):WE c d env Γ (.Name x pos) m st K:=by
 intro A ρ s Q E hA g b h;refine cR (b.names i x k f) λl j=> ?_;refine wpAny_Name ?_ t;rcases j with rfl |rfl
 .refine aB b.ns λD z o=> ?_;refine aB (o i x v f n) λw e r=> ?_;exact wpAny_loadName_local b.kind l z e (h v st ρ s.heap s.toks w p Post.refl g r)
 .refine aS (b.cells i x f) λa C u y h4=> ?_;refine aB (h4 v n) λw q r=> ?_;subst q;exact wpAny_loadName_cell b.kind l u y (h v st ρ s.heap s.toks w p Post.refl g r)
def litOk(v:V)(k:Const):Bool:=match v,k with
 | .none,.none=>true
 | .bool a,.bool b=>a==b
 | .int a,.int b=>a==b
 | .str n,.str y=>sn n==y
 |_,_=>false
def LH{v:V}{k:Const}{n:Nat}{pos:Pos}{K:KV}(h:litOk v k=true)(b:K v st):WE c d env Γ (.Constant k n pos) m st K:=by
 intro A ρ s Q E g a f e;show wpAny _ _ (constValue env k) _ _ _;cases v<;>cases k<;>first |exact ff h |skip
 .exact wpAny_pure (e _ _ _ _ _ _ b Post.refl a .none)
 .cases beq_iff_eq.mp h;exact wpAny_pure (e _ _ _ _ _ _ b Post.refl a (.bool _))
 .cases beq_iff_eq.mp h;exact nd_fresh (nd_pure (e _ _ _ _ _ _ b Post.refl a (.int _ _)))
 .cases beq_iff_eq.mp h;exact nd_fresh (nd_pure (e _ _ _ _ _ _ b Post.refl a (.str _ _)))
def TH{l r:Expr}{op:Operator}{pos:Pos}{K:KV}{g:uF}{x:IE}{y:IE}{C:aR}
  (M:∀K,vE C x m st K->WE c d env Γ l m st K) (I:∀st K,vE C y m st K->WE c d env Γ r m st K)
  (hop:∀(A:Around) (ρ:dM) (s:Shared) (Q:Value->Shared->Prop) (E:Value->Shared->Prop) (st:St) (a b:V) (k j:Value),lA d A->Own c ρ st s.heap->VR ρ s.heap a k->VR ρ s.heap b j->jO g a b st K->
   (∀v f e h' o w,K v f->Post ρ e s.heap h'->Own c e f h'->VR e h' v w->Q w {s with heap:=h',toks:=o})->wpAny (model pw c.w) A (binaryOp op k j) Q E s)
  (h:vE C (.bin g x y) m st K):WE c d env Γ (.BinOp l op r pos) m st K:=by
 intro A ρ s Q E p Y hf J;replace h:vE C x m st (λa st=>vE C y m st λb st=>jO g a b st K):=h;refine wpAny_BinOp (M _ h A ρ s _ E p Y hf ?_);intro a t D a3 a4 k k1 G U N;refine I t _ k1 A D _ _ E p U (hf.post G) ?_;intro b st2 u a6 a5 j k2 n o2 v2;exact hop A u _ _ E st2 a b k j p o2 (N.mono n.pre n.tup) v2 k2 λv f e h' o w L pp oo vv=>J v f e h' o w L ((G.trans n).trans pp) oo vv
end
abbrev Kn(c:Cfg)(ρ:dM)(s:Shared)(K:KV)(Q:Value->Shared->Prop):Prop:=
 ∀v b a h' d w,K v b->Post ρ a s.heap h'->Own c a b h'->VR a h' v w->Q w {s with heap:=h',toks:=d}
def Kn.now{c:Cfg}{ρ:dM}{s:Shared}{K:KV}{Q:Value->Shared->Prop}(f:Kn c ρ s K Q){v:V}{st:St}{w:Value}(a:Nat)(e:K v st)(b:Own c ρ st s.heap)(d:VR ρ s.heap v w):Q w {s with toks:=a}:=
 f v st ρ s.heap a w e Post.refl b d
def Heap.d9{h:Heap}{o:Obj}{a:Addr}{ob:Obj}(e:h.get? a=some ob):(h.push o).get? a=some ob:=Heap.get?_push_of_some o e
def Heap.fresh(h:Heap):h.get? h.objs.size=none:=by
 cases e:h.get? h.objs.size with
 |none=>rfl
 |some o=>exact absurd (Heap.lt_size e) (xu _)
def pO{c:Cfg}{ρ:dM}{st:St}{h:Heap}(x:Own c ρ st h){xs:List V}{vs:List Value}{n:Nat}(b:cH ρ h xs vs)(hb:xs.length<=big):
  Own c (ρ++ [(h.objs.size,h.objs.size)]) (st++ [.list xs]) (h.push (ni vs.toArray n))/\Post ρ (ρ++ [(h.objs.size,h.objs.size)]) h (h.push (ni vs.toArray n)):=by
 refine x.new (λa ob e=>Heap.d9 e) (Heap.fresh h) (Heap.fresh h) ⟨rfl,hb,_,n,Heap.get?_push_size _ rfl,?_⟩;exact b.mono (eE _ _) λy v k g=>Heap.d9 g
def eT{ρ:dM}{p:Addr×Addr}{st:St}{h:Heap}(e:ρ.length=st.length):VR (ρ++ [p]) h (.ref st.length) (.ref p.1):= .ref _ p (by rw [<-e];simp)
section
variable{c:Cfg}{ρ:dM}{st:St}{A:Around}{s:Shared}{K:KV}{Q:Value->Shared->Prop}{E:Value->Shared->Prop}
def bB{h:Heap}{x:Addr}{vs:Array Value}{n:Nat}(e:h.get? x=some (ni vs n)):h.IsList x vs:=⟨_,e,rfl,n,rfl⟩
def Own.list(d:Own c ρ st s.heap){a:Nat}{xs:List V}{w:Value}(f:st[a]? =some (.list xs))(h:VR ρ s.heap (.ref a) w):
  ∃p vs n,ρ[a]? =some p/\p.2=p.1/\w= .ref p.1/\s.heap.get? p.1=some (ni vs n)/\cH ρ s.heap xs vs.toList/\vs.size=xs.length/\xs.length<=big:=by
 cases h with
 |ref _ p b=>
  refine tO (d.rep a _ p f b) λe hb vs n g r=> ?_;exact⟨p,vs,n,b,e,rfl,g,r,by rw [<-ly];exact r.length,hb⟩
def intBits_le{x:Int}(h:x.natAbs<2^63):Builtin.Int.intBits x<=64:=by
 dsimp only [Builtin.Int.intBits];split
 .exact bI rfl
 .have a:x.natAbs≠0:=by rename_i z;exact λq=>z (by rw [Int.natAbs_eq_zero.mp q];rfl)
  have:=(Nat.log2_lt a).mpr h;exact dP this
def vF{x y:Int}(d:x.natAbs<2^63):Builtin.divisionGoesByPylong x y=false:=by
 dsimp only [Builtin.divisionGoesByPylong];have a:(if(x==0)=true then 0 else x.natAbs.log2/30+1)<=3:=by
  split
  .exact bI rfl
  .have b:x.natAbs≠0:=by rename_i z;exact λq=>z (by rw [Int.natAbs_eq_zero.mp q];rfl)
   exact Nat.succ_le_succ (Nat.div_le_div_right (c:=30) (xx ((Nat.log2_lt b).mpr d)))
 simp only [Bool.and_eq_false_iff,decide_eq_false_iff_not];right;exact Nat.not_lt.mpr (zt a (zb rfl))
def HC{op:uF}{pop:Operator}(w:pop=(match op with | .add=> .Add | .sub=> .Sub | .mod=> .Mod | .fdiv=> .FloorDiv | .mul=> .Mult | .band=> .BitAnd))
  {a b:V} {G z:Value} (d:Own c ρ st s.heap) (l:VR ρ s.heap a G) (hb:VR ρ s.heap b z) (h:jO op a b st K) (f:Kn c ρ s K Q):wpAny (model pw c.w) A (binaryOp pop G z) Q E s:=by
 subst w;revert l hb;refine KA h (λo x y k=> ?_) (λx y h=> ?_)
 .intro l hb;refine VR.gC l λt=> ?_;refine VR.gC hb λu=> ?_;cases o
  .exact PyProof.Rows.add_int (f.now _ k d (.int _ _))
  .exact PyProof.Rows.sub_int (f.now _ k d (.int _ _))
  .refine PyProof.Rows.mod_int' (ux k.1) ?_;rw [Int.fmod_eq_emod_of_nonneg _ (uz k.1)];exact f.now _ k.2 d (.int _ _)
  .refine PyProof.Rows.floordiv_int (ux k.1.1) ?_ (.inl (vF k.1.2));rw [Int.fdiv_eq_ediv_of_nonneg _ (uz k.1.1)];exact f.now _ k.2 d (.int _ _)
  .exact PyProof.Rows.mul_int (f.now _ k.2 d (.int _ _)) (IntMulOk.of_left (intBits_le k.1.1))
  .exact PyProof.Rows.and_int (f.now _ k d (.int _ _))
 .intro l hb;refine A2 h λxs ys J I h=> ?_;refine aY (d.list J l) λp vs n N v j g r sz v=> ?_;subst j;refine aY (d.list I hb) λq m k M v j g' H D v=> ?_;subst j;have C:vs.size+m.size<=sizeLine:=by rw [sz,D,sizeLine_eq];exact zt h.1 (zr 15777216)
  refine concat_meets ⟨_,g,rfl⟩ ⟨_,g',rfl⟩ noFill_list_add seq_list_add PySem.F.slot_list_add PySem.F.entry_list_add (PySem.F.args_list_add_2 _ _) (PyProof.Rows.list_addW p.1 q.1 vs m n k none none #[] #[] C) ⟨g,g',?_⟩;have e:vs++m=(vs.toList++m.toList).toArray:=by simp
  rw [e];obtain ⟨o',L⟩:=pO d (r.append H) (by rw [cC];exact h.1);exact f _ _ _ _ s.toks _ h.2 L o' (eT d.len)
end
noncomputable def oG(x:Int)(n:Nat)(step:Int):List V:=(List.range n).map λ(j:Nat)=>V.int (x+(j:Int)*step)
def ri(x:Int)(n:Nat)(step:Int):oG x (n+1) step= .int x::oG (x+step) n step:=by
 dsimp only [oG];rw [List.range_succ_eq_map,cP,gA];simp only [Int.natCast_zero,Int.zero_mul,Int.add_zero,List.cons.injEq,true_and,List.map_inj_left,Function.comp,V.int.injEq];intro a _;show x+((a+1:Nat):Int)*step=_;rw [Int.natCast_add,Int.add_mul];lia
def zj(ρ:dM)(h:Heap)(I:Addr)(src:Option (Nat×List V))(b:List V):Prop:=match src with
 |some (a,xs)=>∃p,ρ[a]? =some p/\((∃k,h.IsListIter I p.1 k/\b=xs.drop k)\/(∃k:Nat,k<=xs.length/\h.IsRevIter I p.1 ((k:Int)-1)/\b=(xs.take k).reverse))
 |none=>(∃x vs n l k,h.get? x=some (gZ vs n)/\cH ρ h l vs.toList/\h.IsTupleIter I x k/\b=l.drop k)\/
  (∃x n step,IsRangeIter h I x (n:Nat) step/\b=oG x n step)
structure pQ (c:Cfg) (X:Addr->Prop) (ρ:dM) (h:Heap) (I:Addr) (src:Option (Nat×List V)) (rest:List V):Prop where
 own: ¬d7 ρ I
 base:c.b0.get? I=none
 sep: ¬X I
 at_:zj ρ h I src rest
 live:∃o,h.get? I=some o/\∀vs n,o≠gZ vs n
set_option tactic.hygienic true in
def pQ.jj{c:Cfg}{X Y:Addr->Prop}{ρ d:dM}{h h':Heap}{I:Addr}{src:Option (Nat×List V)}{j:List V}(x:pQ c X ρ h I src j)(p:bO Y ρ d h h')(H:∀a,Y a->X a):pQ c X d h' I src j:=by
 refine aB x.live λo g nt=> ?_;have t: ¬Y I:=λz=>x.sep (H I z);have keep:∀o,h.get? I=some o->h'.get? I=some o:=λo e=>p.ext I o e x.own t;refine⟨λq=> ?_,x.base,x.sep,?_,o,keep o g,nt⟩
 .refine a_ (p.new I q) (λq=> ?_) λv=>a_ v (λq=> ?_) λq=> ?_
  .exact x.own q
  .rw [g]at q;cases q
  .exact t q
 .have y:=x.at_;dsimp only [zj]at y ⊢;split at y
  .rename_i a xs;refine aB y λq m y=> ?_;have w:d[a]? =some q:=by
    refine ez p.pre λr u=> ?_;subst u;rw [uw (by
     rcases oO _ ρ.length with z |z
     .exact z
     .rw [zT z]at m;cases m)]
    exact m
   refine⟨q,w,?_⟩;refine a_ y (λb=> ?_) λf=> ?_
   any_goals obtain ⟨k,⟨o,g,r⟩,e⟩:=b
   any_goals obtain ⟨k,D,⟨o,g,r⟩,e⟩:=f
   .exact .inl ⟨k,⟨o,keep o g,r⟩,e⟩
   .exact .inr ⟨k,D,⟨o,keep o g,r⟩,e⟩
  .refine a_ y (λb=> ?_) λf=> ?_
   any_goals obtain ⟨x,vs,n,l,k,e,r,⟨o,g,z⟩,G⟩:=b
   any_goals obtain ⟨x,n,step,g,e⟩:=f
   .exact .inl ⟨x,vs,n,l,k,p.tup _ _ _ e,r.mono p.pre p.tup,⟨o,keep o g,z⟩,G⟩
   .exact .inr ⟨x,n,step,keep _ g,e⟩
section
variable{c:Cfg}{X:Addr->Prop}{ρ:dM}{st:St}{A:Around}{s:Shared}{E:Value->Shared->Prop}
def Own.but{h h':Heap}{I:Addr}(d:Own c ρ st h)(j: ¬d7 ρ I)(hb:c.b0.get? I=none)(k:∃o,h.get? I=some o/\∀vs n,o≠gZ vs n)(b:Heap.ExtBut I h h'):
  Own c ρ st h'/\bO (λa=>a=I) ρ ρ h h':=by
 refine aB k λo g nt=> ?_;have f:bw h h':=λx vs n e=>b x _ (λz=>by rw [z,g]at e;exact nt vs n (fE e)) e;refine⟨d.other (λa q=> ?_) f (λa o e=>b a o (λz=>by rw [z,hb]at e;cases e) (d.keep a o e)),⟨bS _,λa o e l n=>b a o n e,λa z=> .inl z,f⟩⟩;refine aB (d.alive q) λo g' l=> ?_;rw [g',b a o (λz=>j (z▸q)) g']
def pX{o:Obj}{T:String}(h:o.cls= .type T)(a:T≠"tuple"):∀vs n,o≠gZ vs n:=λvs n z=>by
 rw [z]at h;simp only at h;injection h with h;exact a h.symm
def fF{h:Heap}{x:Addr}{vs:Array Value}{n:Nat}(e:h.get? x=some (gZ vs n)):h.IsTuple x vs:=⟨_,e,rfl,n,rfl⟩
set_option tactic.hygienic true in
def Cc{I:Addr}{src:Option (Nat×List V)}{v:V}{p:List V}{Q:Option Value->Shared->Prop}(hi:pQ c X ρ s.heap I src (v::p))(z:Own c ρ st s.heap)(hs:Src src st)
  (M:∀h' f w,bO (λa=>a=I) ρ ρ s.heap h'->Own c ρ st h'->pQ c X ρ h' I src p->VR ρ h' v w->Q (some w) {s with heap:=h',toks:=f}):wpAny (model pw c.w) A (pyNext (.ref I)) Q E s:=by
 have fin:∀(h':Heap) (f:Nat) (w:Value),Heap.SameBut I s.heap h'->zj ρ h' I src p->(∃o,h'.get? I=some o/\∀vs n,o≠gZ vs n)->VR ρ s.heap v w->Q (some w) {s with heap:=h',toks:=f}:=λh' f w d hit hl m=>by
  refine cR (z.but hi.own hi.base hi.live d.extBut) λo' D=> ?_;exact M h' f w D o' ⟨hi.own,hi.base,hi.sep,hit,hl⟩ (m.mono D.pre D.tup)
 have y:=hi.at_;dsimp only [zj]at y;split at y
 .rename_i a xs;refine aB y λq u y=> ?_;have U:=z.rep a _ q hs u;refine tO U λN N vs n g r=> ?_;rcases y with⟨k,hit,e⟩ |⟨k,G,hit,e⟩
  .have m:xs[k]? =some v:=by
    have:=congrArg (λl=>l[0]?) e;simpa using this.symm
   refine aB (r.get m) λw h t=> ?_;rw [nh]at h;refine wpAny_pyNext_list_item hit (bB g) h λh' b d=> ?_;refine fin h' s.toks w d ⟨q,u,.inl ⟨k+1,b,?_⟩⟩ (b.elim λo g=>⟨o,g.1,pX g.2.1 (by decide)⟩) t;have:=congrArg List.tail e;simpa using this
  .have H:k≠0:=by rintro rfl;simp at e
   refine ez (Nat.exists_eq_succ_of_ne_zero H) λj L=> ?_;subst L;have J:=G;have Y:xs.take (j+1)=xs.take j++ [xs[j]]:=by simp
   simp only [Nat.succ_eq_add_one]at e hit;rw [Y,List.reverse_append]at e;simp only [List.reverse_singleton,List.singleton_append,List.cons.injEq]at e;refine cR e λe1 e2=> ?_;have m:xs[j]? =some v:=by rw [e1];simp [J]
   refine aB (r.get m) λw h t=> ?_;rw [nh]at h;have C:=RM j;rw [C]at hit;refine wpAny_pyNext_rev_item hit (bB g) h λh' b d=> ?_;exact fin h' s.toks w d ⟨q,u,.inr ⟨j,(zs G),b,e2⟩⟩ (b.elim λo g=>⟨o,g.1,pX g.2.1 (by decide)⟩) t
 .rcases y with⟨x,vs,n,l,k,g,r,hit,e⟩ |⟨x,n,step,hit,e⟩
  .have m:l[k]? =some v:=by
    have:=congrArg (λl=>l[0]?) e;simpa using this.symm
   refine aB (r.get m) λw h t=> ?_;rw [nh]at h;refine wpAny_pyNext_tuple_item hit (fF g) h λh' b d=> ?_;have f:=(z.but hi.own hi.base hi.live d.extBut).2.tup;refine fin h' s.toks w d (.inl ⟨x,vs,n,l,k+1,f _ _ _ g,r.mono (bS _) f,b,?_⟩) (b.elim λo g=>⟨o,g.1,pX g.2.1 (by decide)⟩) t;have:=congrArg List.tail e;simpa using this
  .cases n with
   |zero=>simp [oG]at e
   |succ n=>
    rw [ri]at e;injection e with e1 e2
    subst e1;refine wpAny_pyNext_range_item hit (Int.ofNat_lt.mpr (Nat.succ_pos n)) λh' b d=> ?_;have C:=RM n;rw [C]at b;exact fin h' _ _ d (.inr ⟨x+step,n,step,b,e2⟩) ⟨_,b,pX rfl (by decide)⟩ (.int x _)
set_option tactic.hygienic true in
def GF{I:Addr}{src:Option (Nat×List V)}{Q:Option Value->Shared->Prop}(hi:pQ c X ρ s.heap I src [])(j:Own c ρ st s.heap)(t:Src src st)(hh:A.handled=none)
  (m:∀h' d,bO (λa=>a=I) ρ ρ s.heap h'->Own c ρ st h'->Q none {s with heap:=h',toks:=d}):wpAny (model pw c.w) A (pyNext (.ref I)) Q E s:=by
 have fin:∀(h':Heap) (d:Nat),Heap.ExtBut I s.heap h'->Q none {s with heap:=h',toks:=d}:=λh' d h=>by
  obtain ⟨o',u⟩:=j.but hi.own hi.base hi.live h;exact m h' d u o'
 have y:=hi.at_;dsimp only [zj]at y;split at y
 .rename_i a xs;obtain ⟨q,o,y⟩:=y;have p:=j.rep a _ q t o;obtain ⟨_,_,vs,n,g,r⟩:=p;have len:vs.size=xs.length:=by rw [<-ly];exact r.length
  rcases y with⟨k,hit,e⟩ |⟨k,v,hit,e⟩
  .refine wpAny_pyNext_list_end hh hit (bB g) (Array.getElem?_eq_none ?_) λh' b=>fin h' s.toks b;have:=congrArg List.length e;rw [List.length_drop]at this;exact len▸Nat.le_of_sub_eq_zero this.symm
  .have f:k=0:=by
    have:=congrArg List.length e;simp at this;lia
   subst f;exact wpAny_pyNext_rev_end hh hit λh' b=>fin h' s.toks b
 .rcases y with⟨x,vs,n,l,k,g,r,hit,e⟩ |⟨x,n,step,hit,e⟩
  .have len:vs.size=l.length:=by rw [<-ly];exact r.length
   refine wpAny_pyNext_tuple_end hh hit (fF g) (Array.getElem?_eq_none ?_) λh' b=>fin h' s.toks b;have:=congrArg List.length e;rw [List.length_drop]at this;exact len▸Nat.le_of_sub_eq_zero this.symm
  .cases n with
   |zero=>exact wpAny_pyNext_range_end hh hit (by simp) λh' b=>fin h' s.toks b
   |succ n=>rw [ri]at e;cases e
def JP{I:Addr}{src:Option (Nat×List V)}{b:List V}{Q:Value->Shared->Prop}(hi:pQ c X ρ s.heap I src b)(hh:A.handled=none)(a:Q (.ref I) s):wpAny (model pw c.w) A (pyIter (.ref I)) Q E s:=by
 have y:=hi.at_;dsimp only [zj]at y;split at y
 .refine aB y λq h y=> ?_;rcases y with⟨k,hit,e⟩ |⟨k,f,hit,e⟩
  .exact wpAny_pyIter_listiter hit a
  .exact wpAny_pyIter_revIter hit a
 .rcases y with⟨x,vs,n,l,k,g,r,hit,e⟩ |⟨x,n,step,hit,e⟩
  .exact(Walks.tuple hh I x (by rintro rfl;obtain ⟨o,g',d,_⟩:=hit;rw [g]at g';cases g';simp at d) vs).self k s Q E ⟨hit,fF g⟩ a
  .exact(Walks.range hh I x step n).self 0 s Q E (by simpa using hit) a
end
def XF(env:Env)(a:Addr):Prop:=a=env.locals\/∃p ∈ env.cells,a=p.2
def Og{ρ b:dM}{a:Nat}{p:Addr×Addr}(d:ρ <+: b)(e:ρ[a]? =some p):b[a]? =some p:=by
 obtain ⟨r,rfl⟩:=d;rw [uw (by
  refine a_ (oO a ρ.length) (λq=> ?_) λq=> ?_
  .exact q
  .rw [zT q]at e;cases e)]
 exact e
section
variable{c:Cfg}{env:Env}{Γ:Ctx}{ρ:dM}{st:St}{m:Loc}{A:Around}{s:Shared}{E:Value->Shared->Prop}
def bk.GD{h:Heap}{a:Addr}(x:bk c env Γ ρ m h)(q:XF env a):∃o,h.get? a=some o:=by
 exact q.elim (λe=>x.ns.elim λd h=>(vf h.1).elim λo g=>⟨o,by rw [e];exact g.1⟩) λe=>e.elim λp h=>(x.alive p h.1).elim λb g=>g.elim λo g=>⟨o,by rw [h.2];exact g.1⟩
def iF{i:Nat}{x:Str}{k:NameKind}{v:V}{w:Value}{Q:Unit->Shared->Prop}(N:Γ.sl[i]? =some (some (x,k)))(ho:Own c ρ st s.heap)(d:bk c env Γ ρ m s.heap)(hv:VR ρ s.heap v w)
  (hQ:∀h' tk,bO (XF env) ρ ρ s.heap h'->Own c ρ st h'->bk c env Γ ρ (m.set i (some v)) h'->Q () {s with heap:=h',toks:=tk}):wpAny (model pw c.w) A (storeName env x w) Q E s:=by
 refine cR (d.names i x k N) λhk b0=> ?_;have D:∀(j:Nat) (u:V),(m.set i (some v))[j]? =some (some u)->(j=i/\u=v)\/(j≠i/\m[j]? =some (some u)):=λj u e=>by
  by_cases J:j=i
  .subst J;rw [List.getElem?_set]at e;simp only [if_true]at e;split at e
   .cases e;exact .inl ⟨rfl,rfl⟩
   .cases e
  .rw [j7 (Ne.symm J)]at e;exact .inr ⟨J,e⟩
 refine a_ b0 (λa9=> ?_) λb8=> ?_
 any_goals subst a9
 any_goals subst b8
 .refine aB d.ns λmr hn hm=> ?_;refine wpAny_storeName_local hk hn (λh' c0 G=> ?_) (by rw [d.kind];rfl);obtain ⟨o',l⟩:=ho.but (I:=env.locals) d.own.1 d.low.1 (by
   obtain ⟨o,es,ep,g,hd,_⟩:=hn;exact⟨o,g,λvs n z=>by rw [z]at hd;cases hd⟩) G.extBut
  have ne:∀p ∈ env.cells,p.2≠env.locals:=d.sep.1;refine hQ h' _ (l.mono λa z=> .inl (.inl z)) o' {kind:=d.kind,glob:=d.glob,blt:=d.blt,nm:=d.nm,names:=d.names,inj:=d.inj,low:=d.low,sep:=d.sep,own:=d.own,ns:=⟨_,c0,?_⟩,cells:= ?_,alive:= ?_}
  .intro j y u f H;refine a_ (D j u H) (λt=> ?_) λC=> ?_
   any_goals obtain ⟨rfl,rfl⟩:=t
   any_goals obtain ⟨J,H⟩:=C
   .rw [N]at f;cases f;exact⟨w,by simp,hv.mono l.pre l.tup⟩
   .refine aB (hm j y u f H) λU e r=> ?_;have:y≠x:=λz=>J (d.inj j i y .local .local f (z▸N));exact⟨U,by simp [this,e],r.mono l.pre l.tup⟩
  .intro j y f;refine aS (d.cells j y f) λa ov H Y h4=> ?_;refine⟨a,ov,H,Y.sameBut G (ne (y,a) (mem_of_lookup H)),λu L=> ?_⟩;refine a_ (D j u L) (λt=> ?_) λC=> ?_
   any_goals obtain ⟨rfl,rfl⟩:=t
   any_goals obtain ⟨J,L⟩:=C
   .rw [N]at f;cases f
   .obtain ⟨U,e,r⟩:=h4 u L;exact⟨U,e,r.mono l.pre l.tup⟩
  .intro q hq;refine ez (d.alive q hq) λov Y=> ?_;exact⟨ov,Y.sameBut G (ne q hq)⟩
 .refine aS (d.cells i x N) λa ov H Y h4=> ?_;have M:=mem_of_lookup H;refine wpAny_storeName_cell d.kind hk H Y λh' a7 G=> ?_;obtain ⟨o',l⟩:=ho.but (I:=a) (d.own.2 (x,a) M) (d.low.2 (x,a) M) (by
   obtain ⟨o,g,hd⟩:=Y;exact⟨o,g,λvs n z=>by rw [z]at hd;cases hd⟩) G.extBut
  have nL:env.locals≠a:=Ne.symm (d.sep.1 (x,a) M);refine hQ h' _ (l.mono λb z=> .inl (.inr ⟨(x,a),M,z⟩)) o' {kind:=d.kind,glob:=d.glob,blt:=d.blt,nm:=d.nm,names:=d.names,inj:=d.inj,low:=d.low,sep:=d.sep,own:=d.own,ns:= ?_,cells:= ?_,alive:= ?_}
  .refine aB d.ns λmr hn hm=> ?_;refine⟨mr,hn.sameBut G nL,λj y u f h5=> ?_⟩;refine a_ (D j u h5) (λt=> ?_) λC=> ?_
   any_goals obtain ⟨rfl,rfl⟩:=t
   any_goals obtain ⟨J,h5⟩:=C
   .rw [N]at f;cases f
   .obtain ⟨U,e,r⟩:=hm j y u f h5;exact⟨U,e,r.mono l.pre l.tup⟩
  .intro j y f;refine aS (d.cells j y f) λb ow g2 g3 g4=> ?_;by_cases a1:b=a
   .subst a1;have b3:y=x:=d.sep.2 (y,b) (mem_of_lookup g2) (x,b) M rfl;subst b3;have b2:j=i:=d.inj j i y .cell .cell f N;subst b2;refine⟨b,_,g2,a7,λu L=> ?_⟩;refine a_ (D j u L) (λt=> ?_) λC=> ?_
    any_goals obtain ⟨_,rfl⟩:=t
    any_goals obtain ⟨J,_⟩:=C
    .exact⟨w,rfl,hv.mono l.pre l.tup⟩
    .exact absurd rfl J
   .refine⟨b,ow,g2,g3.sameBut G a1,λu L=> ?_⟩;refine a_ (D j u L) (λt=> ?_) λC=> ?_
    any_goals obtain ⟨rfl,rfl⟩:=t
    any_goals obtain ⟨J,L⟩:=C
    .rw [N]at f;cases f;rw [H]at g2;cases g2;exact absurd rfl a1
    .obtain ⟨U,e,r⟩:=g4 u L;exact⟨U,e,r.mono l.pre l.tup⟩
  .intro q hq;by_cases a6:q.2=a
   .rw [a6];exact⟨_,a7⟩
   .obtain ⟨b5,h5⟩:=d.alive q hq;exact⟨b5,h5.sameBut G a6⟩
end
section
variable{c:Cfg}{ρ:dM}{st:St}{h:Heap}
def Own.push(b:Own c ρ st h)(o:Obj):Own c ρ st (h.push o)/\Post ρ ρ h (h.push o):=by
 have k:∀a ob,h.get? a=some ob->(h.push o).get? a=some ob:=λa ob e=>Heap.d9 e;exact⟨b.other (λa q=>by obtain ⟨ob,g,_⟩:=b.alive q;rw [g,k a ob g]) (λx vs n e=>k _ _ e) (λa ob e=>k a ob (b.keep a ob e)),
  ⟨bS _,λa ob e d d=>k a ob e,λa z=> .inl z,λx vs n e=>k _ _ e⟩⟩
def gD{b:dM}{h':Heap}{a:Addr}{d:St}(p:Post ρ b h h')(_:Own c ρ st h)(oo:Own c b d h')(z:h'.get? a=none):h.get? a=none:=by
 cases e:h.get? a with
 |none=>rfl
 |some o=>
  by_cases q:d7 ρ a
  .obtain ⟨o',g,_⟩:=oo.alive (q.mono p.pre);rw [g]at z;cases z
  .rw [p.ext a o e q id]at z;cases z
def vG{h':Heap}{a:Addr}(p:Post ρ ρ h h')(f:Own c ρ st h)(z:h'.get? a=none)(d:∀b o,h.get? b=some o->h'.get? b=some o):h.get? a=none:=by
 cases e:h.get? a with
 |none=>rfl
 |some o=>rw [d a o e]at z;cases z
def Own.fresh(a:Own c ρ st h): ¬d7 ρ h.objs.size/\c.b0.get? h.objs.size=none:=by
 refine⟨λq=> ?_,?_⟩
 .obtain ⟨o,g,_⟩:=a.alive q;rw [Heap.fresh]at g;cases g
 .cases e:c.b0.get? h.objs.size with
  |none=>rfl
  |some o=>have:=a.keep _ _ e;rw [Heap.fresh]at this;cases this
end
section
variable{c:Cfg}{env:Env}{Γ:Ctx}{ρ:dM}{st:St}{m:Loc}{A:Around}{s:Shared}{E:Value->Shared->Prop}{K:Value->Shared->Prop}
abbrev uq(c:Cfg)(env:Env)(ρ:dM)(st:St)(s:Shared)(I:It)(K:Value->Shared->Prop):Prop:=
 ∀h' b a,Post ρ ρ s.heap h'->Own c ρ st h'->pQ c (XF env) ρ h' a I.src I.bA->s.heap.get? a=none->K (.ref a) {s with heap:=h',toks:=b}
def pY{I:It}{o:Obj}{T:String}(a:Own c ρ st s.heap)(e:bk c env Γ ρ m s.heap)(k:uq c env ρ st s I K)(d:Nat)(l:o.cls= .type T)(f:T≠"tuple")(n:o.isFreed=false)
  (b:zj ρ (s.heap.push o) s.heap.objs.size I.src I.bA):K (.ref s.heap.objs.size) {s with heap:=s.heap.push o,toks:=d}:=by
 refine cR (a.push o) λo' j=> ?_;refine k _ d _ j o' ⟨a.fresh.1,a.fresh.2,λq=> ?_,b,o,Heap.get?_push_size _ n,pX l f⟩ (Heap.fresh _);refine ez (e.GD q) λob g=> ?_;rw [Heap.fresh]at g;cases g
def DB{a:Nat}{xs:List V}{w:Value}(k:st[a]? =some (.list xs))(l:VR ρ s.heap (.ref a) w)(b:Own c ρ st s.heap)(j:bk c env Γ ρ m s.heap)(o:uq c env ρ st s ⟨xs,some (a,xs)⟩ K):
  wpAny (model pw c.w) A (pyIter w) K E s:=by
 refine aY (b.list k l) λp vs n e f d g r sz f=> ?_;subst d;refine wpAny_pyIter_list (bB g) (pY b j o s.toks rfl (by decide) rfl ?_);exact⟨p,e,.inl ⟨0,⟨_,Heap.get?_push_size _ rfl,rfl,rfl⟩,(dw _)⟩⟩
def Gz{l:List V}{w:Value}(f:VR ρ s.heap (.tup l) w)(d:Own c ρ st s.heap)(b:bk c env Γ ρ m s.heap)(j:uq c env ρ st s ⟨l,none⟩ K):
  wpAny (model pw c.w) A (pyIter w) K E s:=by
 cases f with
 |tup _ x vs n g r=>
  refine wpAny_pyIter_tuple (fF g) (pY d b j s.toks rfl (by decide) rfl ?_);exact .inl ⟨x,vs,n,l,0,Heap.d9 g,r.mono (bS _) λa a a e=>Heap.d9 e,⟨_,Heap.get?_push_size _ rfl,rfl,rfl⟩,(dw _)⟩
def GA{a:Nat}{xs:List V}{w:Value}(o:st[a]? =some (.list xs))(l:VR ρ s.heap (.ref a) w)(d:Own c ρ st s.heap)(j:bk c env Γ ρ m s.heap)(q:uq c env ρ st s ⟨xs.reverse,some (a,xs)⟩ K):
  wpAny (model pw c.w) A (call (.type "reversed") [w]) (λv b=>wpAny (model pw c.w) A (pyIter v) K E b) E s:=by
 refine aY (d.list o l) λp vs n f k e g r sz k=> ?_;subst e;have hit:(s.heap.push (revObj p.1 ((vs.size:Int)-1))).IsRevIter s.heap.objs.size p.1 ((vs.size:Int)-1):=⟨_,Heap.get?_push_size _ rfl,rfl,rfl⟩;refine call_reversed_list (bB g) (wpAny_pyIter_revIter hit (pY d j q s.toks rfl (by decide) rfl ?_));exact⟨p,f,.inr ⟨xs.length,bP _,by rw [<-sz];exact hit,by simp⟩⟩
def DX(lo hi step:Int)(h:0<step):eY lo hi step=oG lo (Builtin.Range.rangeSize lo hi step).toNat step/\0<=Builtin.Range.rangeSize lo hi step:=by
 have e:(hi-lo+step-1)/step=(hi-lo-1)/step+1:=by
  have:hi-lo+step-1=(hi-lo-1)+1*step:=(x_ (Int.not_lt.mp λd=>dJ (Pn _ _ _) (AI (AI (.sub (.sub jr D3) ck) (.mulL 1 bH)) ck) (.sub (AI (.sub jr D3) bH) ck) d rfl) (Int.not_lt.mp λd=>dJ (Pn _ _ _) (AI (.sub (AI (.sub jr D3) bH) ck) ck) (AI (.sub (.sub jr D3) ck) (.mulL 1 bH)) d rfl));rw [this,Int.add_mul_ediv_right _ _ (ux h)]
 dsimp only [eY,oG,Builtin.Range.rangeSize];rw [if_pos h,e];split<;>rename_i z
 .have:0<=(hi-lo-1)/step:=Int.ediv_nonneg (Int.le_sub_one_of_lt (Int.sub_pos_of_lt z)) (Int.not_lt.mp λd=>dJ (fP _) (AI (AI jb ck) (AI bH ck)) (AI bH jb) (bE h d) rfl);exact⟨rfl,(Int.not_lt.mp λd=>dJ (fP _) (AI jb (AI (AI bH ck) ck)) (AI bH jb) (bE this d) rfl)⟩
 .have:(hi-lo-1)/step+1<=0:=by
   have:=Int.ediv_lt_of_lt_mul (a:=hi-lo-1) (b:=0) h (by rw [Int.zero_mul];exact Int.sub_one_lt_of_le (Int.sub_nonpos_of_le (Int.not_lt.mp z)));exact Int.not_lt.mp λd=>dJ (fP _) (AI (AI bH ck) (AI jb ck)) (AI jb (AI bH ck)) (bE this d) rfl
  rw [Int.toNat_eq_zero.mpr this];exact⟨rfl,(Int.not_lt.mp λd=>dJ (fP 0) (AI jb ck) jb d rfl)⟩
def Sy{x y:Int}(a: -4611686018427387904<x)(f:x<4611686018427387904)(e: -4611686018427387904<y)(d:y<4611686018427387904):y-x<=9223372036854775806:=(Int.not_lt.mp λb=>dJ (xU _ _) (AI (AI (.num (-4611686018427387904)) ck) (AI (AI jr ck) (AI (.num 9223372036854775806) ck))) (AI bH (AI (.num 4611686018427387904) (.sub jr bH))) (bE a (bE d b)) rfl)
def Oh{x:Int}(h: -4611686018427387904<x/\x<4611686018427387904): -2^63<=x/\x<2^63:=⟨(Int.not_lt.mp λa=>dJ (fP _) (AI (AI (.num (-4611686018427387904)) ck) (AI bH ck)) (AI bH (.neg (.num 9223372036854775808))) (bE h.1 a) rfl),(Int.not_le.mp λa=>dJ (fP _) (AI (AI bH ck) (.num 9223372036854775808)) (AI (.num 4611686018427387904) bH) (bE h.2 a) rfl)⟩
def Sz{x s:Int}(h: -4611686018427387904<x/\x<4611686018427387904)(b:0<s)(d:s<4611686018427387904): -2^63<=x+(s-1)/\x+(s-1)<2^63:=⟨(Int.not_lt.mp λa=>dJ (xU _ _) (AI (AI (.num (-4611686018427387904)) ck) (AI (AI jb ck) (AI (AI bH (.sub jr ck)) ck))) (AI bH (AI jr (.neg (.num 9223372036854775808)))) (bE h.1 (bE b a)) rfl),(Int.not_le.mp λa=>dJ (xU _ _) (AI (AI bH ck) (AI (AI jr ck) (.num 9223372036854775808))) (AI (.num 4611686018427387904) (AI (.num 4611686018427387904) (AI bH (.sub jr ck)))) (bE h.2 (bE d a)) rfl)⟩
def SA{x:Int}(b:0<=x)(d:x<=2^63-1): -2^63<=x/\x<2^63:=⟨(Int.not_lt.mp λa=>dJ (fP _) (AI jb (AI bH ck)) (AI bH (.neg (.num 9223372036854775808))) (bE b a) rfl),(Int.not_le.mp λa=>dJ (fP _) (AI bH (.num 9223372036854775808)) (AI (.sub (.num 9223372036854775808) ck) bH) (bE d a) rfl)⟩
def ur{lo hi step:Int}{t u v:Tok}{r:Addr}(k:IsRange s.heap r lo hi step t u v)(j:Own c ρ st s.heap)(f:bk c env Γ ρ m s.heap)
  (hb:lo.natAbs<2^62/\hi.natAbs<2^62/\0<step/\step<2^62) (n:uq c env ρ st s ⟨eY lo hi step,none⟩ K):
  wpAny (model pw c.w) A (pyIter (.ref r)) K E s:=by
 have b:=DX lo hi step hb.2.2.1;have b1:=JJ hb.1;have b2:=JJ hb.2.1;have g:=Sy b1.1 b1.2 b2.1 b2.2;have a:=hb.2.2.1;have d:=hb.2.2.2;clear hb;have e:Builtin.Range.rangeSize lo hi step<=2^63-1:=by
  dsimp only [Builtin.Range.rangeSize];rw [if_pos a];clear b1 b2 d;split
  .rename_i z;have:=Int.ediv_le_self step (Int.le_sub_one_of_lt (Int.sub_pos_of_lt z));clear z a b;exact Int.not_lt.mp λl=>dJ (Pn _ _ _) (AI (.sub bH jr) (AI D3 (AI (.sub (.num 9223372036854775808) ck) ck))) (AI (.num 9223372036854775806) (AI (.sub (.sub bH jr) ck) (AI D3 ck))) (bE g (bE this l)) rfl
  .decide
 refine wpAny_pyIter_range k (by
  dsimp only [Builtin.Range.small];simp only [Builtin.Range.rangeFitsLong,cM,CP,decide_eq_true_eq,beq_iff_eq];rw [if_pos a];simp only [decide_eq_true_eq,cM];exact⟨⟨⟨⟨Oh b1,Oh b2⟩,Oh ⟨Int.lt_trans (by decide) a,d⟩⟩,SA b.2 e⟩,.inr (Sz b2 a d)⟩) (pY j f n s.toks rfl (by decide) rfl ?_)
 refine .inr ⟨lo,(Builtin.Range.rangeSize lo hi step).toNat,step,?_,b.1⟩;rw [Int.toNat_of_nonneg b.2];exact Heap.get?_push_size _ rfl
def y_{hi:Int}{t:Tok}(f:Own c ρ st s.heap)(g:bk c env Γ ρ m s.heap)(hb:hi.natAbs<2^62)(l:uq c env ρ st s ⟨eY 0 hi 1,none⟩ K):
  wpAny (model pw c.w) A (call (.type "range") [.int hi t]) (λv b=>wpAny (model pw c.w) A (pyIter v) K E b) E s:=by
 refine call_range_1 ?_;refine cR (f.push {cls:= .type "range",data:= .fields #[.int 0 s.toks,.int hi t,.int 1 (s.toks+1)]}) λo' d=> ?_;exact ur (IsRange.new ..) o' (g.post d) ⟨by decide,hb,by decide,by decide⟩ λh' k a p o i z=>l h' k a (d.trans p) o i (vG d f z λj j e=>Heap.d9 e)
def zc{lo hi step:Int}{t u v:Tok}(g:Own c ρ st s.heap)(j:bk c env Γ ρ m s.heap)(hb:lo.natAbs<2^62/\hi.natAbs<2^62/\0<step/\step<2^62)(l:uq c env ρ st s ⟨eY lo hi step,none⟩ K):
  wpAny (model pw c.w) A (call (.type "range") [.int lo t,.int hi u,.int step v]) (λv d=>wpAny (model pw c.w) A (pyIter v) K E d) E s:=by
 refine call_range_3 (ux hb.2.2.1) ?_ (.inl (vF (by have b1:=JJ hb.1;have b2:=JJ hb.2.1;clear hb;exact Dd (Int.not_le.mp λb=>dJ (xU _ _) (AI (AI bH ck) (AI (AI (.num (-4611686018427387904)) ck) (.sub jr bH))) (AI (.num 4611686018427387904) (AI jr (.num (-9223372036854775808)))) (bE b1.2 (bE b2.1 b)) rfl) (Int.not_le.mp λb=>dJ (xU _ _) (AI (AI (.num (-4611686018427387904)) ck) (AI (AI jr ck) (.num 9223372036854775808))) (AI bH (AI (.num 4611686018427387904) (.sub jr bH))) (bE b1.1 (bE b2.2 b)) rfl))));refine cR (g.push {cls:= .type "range",data:= .fields #[.int lo t,.int hi u,.int step v]}) λo' f=> ?_;exact ur (IsRange.new ..) o' (j.post f) hb λh' k a p o i z=>l h' k a (f.trans p) o i (vG f g z λb b e=>Heap.d9 e)
end
section
open PySem.SeqAt
section
variable{c:Cfg}{ρ:dM}{h:Heap}
theorem vH{f:V->V->Option Bool}(m:∀a b w x,VR ρ h a w->VR ρ h b w->f a b=some x->x=true):∀(l l':List V) (j:List Value) (x:Bool),cH ρ h l j->cH ρ h l' j->kq f l l'=some x->x=true
 | [],[],_,_,_,_,e=>(fE e).symm
 | [],_::_,_,_,r,g,_=>by cases (show _=[]from r.i).symm.trans g.i.choose_spec.choose_spec.2.2
 |_::_,[],_,_,r,g,_=>by cases (show _=[]from g.i).symm.trans r.i.choose_spec.choose_spec.2.2
 |a::l,b::l',j,x,r,g,e=>by
  refine aS r.i λw u p q k=> ?_;subst k;refine aS g.i λn n o t z=> ?_;cases z;exact Cr e λy z e1 e2 h=>by rw [h,m _ _ _ _ p o e1,vH m _ _ _ _ q t e2];rfl
def HX(n:Nat):∀(a b:V) (w:Value) (x:Bool),VR ρ h a w->VR ρ h b w->vEq n a b=some x->x=true:=by
 refine Nat.strongRecOn n λn G a b w x f hb e=> ?_;revert f hb;refine Hx e (λD D=>rfl) (λp q f hb=> ?_) (λp q f hb=> ?_) (λm l l' C e f hb=> ?_)
 .cases (show w=_ from f.i).symm.trans hb.i;exact beq_self_eq_true _
 .refine ez f.i λt o=> ?_;subst o;refine ez hb.i λu z=> ?_;cases z;exact beq_self_eq_true _
 .refine tP f.i λy vs k g r j=> ?_;subst j;refine tP hb.i λI H J g' v z=> ?_;cases z;cases fE (g.symm.trans g');exact vH (G m (C▸Df m)) _ _ _ _ r v e
theorem pZ{f:V->V->Option Bool}:∀{l l':List V} {x:Bool},kq f l l'=some x->
  ∃e:Nat->Bool,(∀j a b,l[j]? =some a->l'[j]? =some b->f a b=some (e j))/\x=((List.range (min l.length l'.length)).all e&&l.length==l'.length)
 | [],[],x,h=>⟨λg=>true,λg g g h=>oo h,(fE h).symm⟩
 | [],b::l',x,h=>⟨λg=>true,λg g g h=>oo h,(fE h).symm⟩
 |a::l,[],x,h=>⟨λg=>true,λg g g g h=>oo h,(fE h).symm⟩
 |a::l,b::l',x,h=>by
  refine Cr h λo t e1 e2 h=> ?_;refine aB (pZ e2) λe p n=> ?_;refine⟨λj=>Nat.rec o (λj g=>e j) j,λj u v k m=> ?_,?_⟩
  .cases j with
   |zero=>cases fE k;cases fE m;exact e1
   |succ j=>exact p j u v k m
  .have:min (a::l).length (b::l').length=min l.length l'.length+1:=Nat.succ_min_succ _ _;have q:((a::l).length==(b::l').length)=(l.length==l'.length):=by simp
   rw [this,List.range_succ_eq_map,List.all_cons,List.all_map,h,n,Bool.and_assoc,q];rfl
def AQ(n:Nat):∀(a b:V) (u t:Value) (x:Bool) (A:Around) (s:Shared),s.heap=h->A.units+n<9000->VR ρ h a u->VR ρ h b t->vEq n a b=some x->EqAt A s u t x:=by
 refine Nat.strongRecOn n λn ih a b u t x A s I N o hb e=> ?_;have e0:=e;revert o hb e0;refine Hx (P:=λa b x=>VR ρ h a u->VR ρ h b t->vEq n a b=some x->EqAt A s u t x) e (λo hb w=>VR.BU o (VR.BU hb (EqAt.same _))) (λp q o hb w=>VR.mV o (VR.mV hb (EqAt.bool_bool _ _))) (λp q o hb w=>VR.gC o λw=>VR.gC hb λw=>EqAt.int_int _ _ _ _) (λm l l' hn e o hb e0=> ?_);refine VR.qA o λy vs k g r=>VR.qA hb λy' G k' g' H=> ?_
 ··
   by_cases z:y=y'
   .subst z;have:=HX n _ _ _ _ (VR.tup l y vs k g r) (VR.tup l' y G k' g' H) e0;rw [this];exact EqAt.same _
   .refine aB (pZ (f:=vEq m) e) λf h1 h2=> ?_;have U:vs.size=l.length:=by rw [<-ly];exact r.length
    have L:G.size=l'.length:=by rw [<-ly];exact H.length
    refine EqAt.of_refs z ?_;rw [h2,<-U,<-L];refine RcAt.tuples (fF (I▸g)) (fF (I▸g')) (by have:A.units<9900:=(zt (zt (za (zr _) 1) N) (bI rfl));exact this) λj J M=> ?_;have Y:j<l.length:=(zt J (ze U));have D:j<l'.length:=(zt M (ze L));refine aB (r.get (i:=j) (v:=l[j]) (gO Y)) λw1 e1 v1=> ?_;refine aB (H.get (i:=j) (v:=l'[j]) (gO D)) λw2 e2 v2=> ?_;rw [nh,xw J]at e1;rw [nh,xw M]at e2;rw [fE e1,fE e2];exact ih m (hn▸Df m) _ _ _ _ _ A.in1 s I (by have C:=N;rw [hn,<-AA,Nat.add_right_comm]at C;exact C) v1 v2 (h1 j _ _ (gO Y) (gO D))
end
section
variable{c:Cfg}{d:Nat}{ρ:dM}{st:St}{A:Around}{s:Shared}{K:KV}{Q:Value->Shared->Prop}{E:Value->Shared->Prop}
def A7{xs ys:List V}{vs a:Array Value}{x:Bool}(v:lA d A)(r:cH ρ s.heap xs vs.toList)(g:cH ρ s.heap ys a.toList)(e:kq (vEq 4) xs ys=some x):
  ∃f:Nat->Bool,(∀j (p:j<vs.size) (l:j<a.size),EqAt A.in1 s vs[j] a[j] (f j))/\x=((List.range (min vs.size a.size)).all f&&vs.size==a.size):=by
 refine aB (pZ e) λf p l=> ?_;have m:vs.size=xs.length:=by rw [<-ly];exact r.length
 have o:a.size=ys.length:=by rw [<-ly];exact g.length
 refine⟨f,λj k q=> ?_,by rw [l,m,o]⟩;have n:=(zt k (ze m));have b:=(zt q (ze o));refine aB (r.get (gO n)) λw1 e1 u=> ?_;refine aB (g.get (gO b)) λw2 e2 t=> ?_;rw [nh,xw k]at e1;rw [nh,xw q]at e2;rw [fE e1,fE e2];exact AQ 4 _ _ _ _ _ A.in1 s rfl (by have:=v.units;show A.units+1+4<9000;exact zt (zt (za (zr _) 6) (za this 6)) (bI rfl)) u t (p j _ _ (gO n) (gO b))
def HD{op:Be}{pop:CmpOp}(a5:pop=(match op with | .eq=> .Eq | .ne=> .NotEq | .lt=> .Lt | .gt=> .Gt | .ge=> .GtE | .le=> .LtE))
  {a b:V} {L C:Value} (Y:lA d A) (v:Own c ρ st s.heap) (o:VR ρ s.heap a L) (hb:VR ρ s.heap b C) (h:j5 op a b st K) (w:Kn c ρ s K Q):wpAny (model pw c.w) A (compareOp pop L C) Q E s:=by
 subst a5;have a0:∀(op:Be) (x y:Int) (t u:Tok),K (.bool (b_ op x y)) st->wpAny (model pw c.w) A (compareOp (match op with | .eq=> .Eq | .ne=> .NotEq | .lt=> .Lt | .gt=> .Gt | .ge=> .GtE | .le=> .LtE) (.int x t) (.int y u)) Q E s:=by
  intro op x y t u h;have g:=λb (e:b=b_ op x y)=>w.now s.toks (e▸h) v (.bool _);cases op
  .exact PySem.P.eq_int (g _ rfl)
  .exact PySem.P.ne_int (g _ rfl)
  .exact PySem.P.lt_int (g _ rfl)
  .exact PySem.P.gt_int (g _ rfl)
  .exact PySem.P.ge_int (g _ rfl)
  .exact PySem.P.le_int (g _ rfl)
 have z:∀(x y:Nat) (xs ys:List V),st[x]? =some (.list xs)->st[y]? =some (.list ys)->VR ρ s.heap (.ref x) L->VR ρ s.heap (.ref y) C->∀b,kq (vEq 4) xs ys=some b->
   (K (.bool b) st->wpAny (model pw c.w) A (compareOp .Eq L C) Q E s)/\(K (.bool (!b)) st->wpAny (model pw c.w) A (compareOp .NotEq L C) Q E s):=by
  intro x y xs ys J H o hb b e;refine aY (v.list J o) λp vs n hp zz D g r sz zz=> ?_;subst D;refine aY (v.list H hb) λq ws m hq zz D g' M b4 zz=> ?_;subst D;refine aB (A7 Y r M e) λf U N=> ?_;have cu:=Y.cu;by_cases G:vs.size=ws.size
  .have I:b=(List.range vs.size).all f:=by rw [N,G];simp
   exact⟨λh=>eq_listAt (bB g) (bB g') G cu U (w.now s.toks (I▸h) v (.bool _)),
    λh=>RcNeAt.lists (bB g) (bB g') G cu U _ _ _ _ (w.now s.toks (I▸h) v (.bool _))⟩
  .have I:b=false:=by rw [N];simp [G]
   have a2:(vs.size != ws.size)=true:=by simp [G]
   exact⟨λh=>eq_list_lengthsAt (bB g) (bB g') a2 cu (w.now s.toks (I▸h) v (.bool _)),
    λh=>RcNeAt.lists_lengths (bB g) (bB g') a2 cu _ _ _ _ (w.now s.toks (by rw [I]at h;exact h) v (.bool _))⟩
 revert o hb;refine KD h (λop x y h o hb=>VR.gC o λt=>VR.gC hb λu=>a0 op _ _ _ _ h) (λx y h o hb=>VR.mV o (VR.mV hb (PyProof.Rows.eq_bool (w.now s.toks h v (.bool _))))) (λx y h o hb=>VR.mV o (VR.mV hb (PyProof.Rows.ne_bool (w.now s.toks h v (.bool _)))))
  (λl l' b e h o hb=>VR.qA o λy vs k g r=>VR.qA hb λy' b1 k' g' M=> ?_) (λx y xs ys b J H e h o hb=>(z x y xs ys J H o hb b e).1 h) (λx y xs ys b J H e h o hb=>(z x y xs ys J H o hb b e).2 h)
 refine aB (pZ e) λf U N=> ?_;have s1:vs.size=l.length:=by rw [<-ly];exact r.length
 have s2:b1.size=l'.length:=by rw [<-ly];exact M.length
 refine eq_tupleAt (fF g) (fF g') Y.cu (λj j1 j2=> ?_) (by rw [s1,s2,<-N];exact w.now s.toks h v (.bool _));have jl:=(zt j1 (ze s1));have a1:=(zt j2 (ze s2));refine aB (r.get (gO jl)) λw1 e1 v1=> ?_;refine aB (M.get (gO a1)) λw2 e2 v2=> ?_;rw [nh,xw j1]at e1;rw [nh,xw j2]at e2;rw [fE e1,fE e2];exact AQ 3 _ _ _ _ _ A.in1 s rfl (zt (zt (za (zr _) 5) (za Y.units 5)) (bI rfl)) v1 v2 (U j _ _ (gO jl) (gO a1))
set_option tactic.hygienic true in
def jU{v:V}{w:Value}{KB:Bool->St->Prop}{m:Bool->Shared->Prop}(u:Own c ρ st s.heap)(j:VR ρ s.heap v w)(h:tr KB v st)
  (f:∀b q,KB b st->m b {s with toks:=q}):wpAny (model pw c.w) A (truthy w) m E s:=by
 dsimp only [tr]at h;cases v<;>simp only [bY]at h
 .cases j;exact wpAny_pure (f _ s.toks h)
 .cases j;exact wpAny_pure (f _ s.toks h)
 .cases j;rename_i i t;have:(i != 0)=decide (i≠0):=by by_cases z:i=0<;>simp [z]
  exact PySem.P.truthy_int (this▸f _ s.toks h)
 .rename_i a
  cases e:st[a]? with
  |none=>rw [e]at h;exact h.elim
  |some o=>
   rw [e]at h
   cases o with
   |list xs=>
    refine aY (u.list e j) λp vs n y x l g r sz hb=> ?_;subst l;refine wpAny_truthy_list (bB g) (Int.ofNat_lt.mpr (zt (Nat.succ_le_succ (zt (ze sz) hb)) (zb rfl):vs.size<2^63)) ?_;have e2:vs.isEmpty=xs.isEmpty:=by
     rw [Array.isEmpty,sz];cases xs<;>exact rfl
    rw [e2];exact f _ _ h
   |inst k C=>exact h.elim
   |dict es=>exact h.elim
   |dU es=>exact h.elim
   |iw es=>exact h.elim
end
section
variable{c:Cfg}{d:Nat}{ρ:dM}{st:St}{A:Around}{s:Shared}{K:KV}{Q:Value->Shared->Prop}{E:Value->Shared->Prop}
def Own.kept{h h':Heap}(f:Own c ρ st h)(k:∀b o,h.get? b=some o->h'.get? b=some o):Own c ρ st h'/\Post ρ ρ h h':=
 ⟨f.other (λa q=>by obtain ⟨ob,g,_⟩:=f.alive q;rw [g,k a ob g]) (λx vs n e=>k _ _ e) (λa ob e=>k a ob (f.keep a ob e)),
  ⟨bS _,λa ob e j j=>k a ob e,λa z=> .inl z,λx vs n e=>k _ _ e⟩⟩
def set_list{a:Nat}{xs ys:List V}{p:Addr×Addr}{h h':Heap}{vs:Array Value}{n:Nat}(j:Own c ρ st h)(l:st[a]? =some (.list xs))(f:ρ[a]? =some p)(hb:ys.length<=big)
  (g:h'.get? p.1=some (ni vs n)) (m:Heap.SameBut p.1 h h') (r:cH ρ h ys vs.toList):Own c ρ (st.set a (.list ys)) h'/\Post ρ ρ h h':=by
 have e2:=(j.rep a _ p l f).1;refine j.set rfl l f (λb t u=>m.2 b t) ⟨e2,hb,vs,n,g,?_⟩;have al:=(j.rep a _ p l f).alive.1;refine r.mono (bS _) λx q k e=> ?_;rw [m.2 x (λz=>by obtain ⟨o,g',nt⟩:=al;rw [z,g']at e;exact nt q k (fE e))];exact e
def A8(f:Array Value->Array Value)(vs:Array Value)(n:Nat):∃k,Obj.mapSeq f (ni vs n)=ni (f vs) k:=by
 exact⟨_,rfl⟩
def xT{h:Heap}{a:Addr}{vs:Array Value}{n:Nat}(g:h.get? a=some (ni vs n))(f:Array Value->Array Value):∃k,(h.update a (Obj.mapSeq f)).get? a=some (ni (f vs) k):=by
 refine ez (A8 f vs n) λk e=> ?_;exact⟨k,by rw [Heap.get?_update_self _ g (by rw [e];rfl),e]⟩
def qZ{a:Nat}{v:V}{w f:Value}(b:Own c ρ st s.heap)(o:VR ρ s.heap (.ref a) w)(u:VR ρ s.heap v f){xs:List V}(j:st[a]? =some (.list xs))(e:xs.length<big)
  (h:K .none (st.set a (.list (xs++ [v])))) (t:Kn c ρ s K Q):wpAny (model pw c.w) A (call (.builtin "list.append") [w,f]) Q E s:=by
 refine aY (b.list j o) λp vs n m y l g r sz hb=> ?_;subst l;refine wpAny_list_append_plain ⟨n,g⟩ (λh' ⟨k,g'⟩ q=> ?_) (by rw [sizeLine_eq];have:=e;simp only [big]at this;exact zt (zt (ze sz) (zs this)) (zr 15777216));obtain ⟨o',x⟩:=set_list (ys:=xs++ [v]) b j m (by rw [cC];exact e) g' q (by rw [Array.toList_push];exact r.append (.cons u .nil));exact t _ _ _ h' s.toks _ h x o' .none
def Hz{a:Nat}{v:V}{w:Value}(l:Own c ρ st s.heap)(u:VR ρ s.heap (.ref a) w){xs:List V}(o:st[a]? =some (.list xs))(m:xs.getLast? =some v)
  (h:K v (st.set a (.list xs.dropLast))) (z:Kn c ρ s K Q):wpAny (model pw c.w) A (call (.builtin "list.pop") [w]) Q E s:=by
 refine aY (l.list o u) λp vs n t C q g r sz hb=> ?_;subst q;rw [List.getLast?_eq_getElem?]at m;refine aB (r.get m) λy b x=> ?_;rw [nh,<-sz]at b;refine call_meets PySem.F.slot_list_pop ⟨_,g,rfl⟩ PySem.F.entry_list_pop (PySem.F.args_list_pop_1 _) (PySem.MeetsSeq.list_pop_last p.1 vs n y b (by rw [sizeLine_eq];simp only [big]at hb;exact zt (zt (ze sz) hb) (zr 15777216))) ⟨g,?_⟩;refine ez (xT g λxs=>xs.eraseIdxIfInBounds (vs.size-1)) λk g'=> ?_;have e:(vs.eraseIdxIfInBounds (vs.size-1)).toList=vs.toList.take (xs.length-1):=by
  have j:=(Array.getElem?_eq_some_iff.mp b).1;rw [Array.eraseIdxIfInBounds,dif_pos j,Array.toList_eraseIdx,List.eraseIdx_eq_take_drop_succ,List.drop_of_length_le (by rw [ly];exact Nat.le_add_of_sub_le (bP _)),fK,sz]
 obtain ⟨o',f⟩:=set_list l o t (by rw [List.length_dropLast];exact zt (Nat.sub_le _ _) hb) g' (Heap.SameBut.update ..) (by rw [e,List.dropLast_eq_take];exact r.take _);exact z _ _ _ _ s.toks _ h f o' (x.mono f.pre f.tup)
def zE{a b:Nat}{w u:Value}(t:Own c ρ st s.heap)(H:VR ρ s.heap (.ref a) w)(I:VR ρ s.heap (.ref b) u){xs ys:List V}(z:st[a]? =some (.list xs))(y:st[b]? =some (.list ys))
  (v:a≠b/\xs.length+ys.length<=big) (h:K .none (st.set a (.list (xs++ys)))) (D:Kn c ρ s K Q):wpAny (model pw c.w) A (call (.builtin "list.extend") [w,u]) Q E s:=by
 refine aY (t.list z H) λp vs n G l f g r sz hb=> ?_;subst f;refine aY (t.list y I) λq o m M l f g' C j L=> ?_;subst f;have e:=v.2;dsimp only [big]at e;refine call_meets PySem.F.slot_list_extend ⟨_,g,rfl⟩ PySem.F.entry_list_extend (PySem.F.args_list_extend_2 _ _) (PySem.AutoSeq1.list_extend_list_list_0 p.1 vs n q.1 o m (by
  have:Builtin.List.listTooLong (vs.size+o.size)=false:=by
   dsimp only [Builtin.List.listTooLong];simp only [decide_eq_false_iff_not];rw [sizeLine_eq];exact Nat.not_lt.mpr (zt (aH (ze sz) (ze j)) (zt e (zb rfl)))
  rw [this];simp) (by rw [sizeLine_eq];exact zt (zt (zt (ze sz) (zr _)) e) (bI rfl)) (by rw [sizeLine_eq];exact cD λl=>bx (oJ _ _ _ _) (AN bg (AN dm (AN (AN aE aI) (AN (AN (.num 16777216) aA) aA)))) (AN aE (AN aI (AN (.num 1000000) (AN bg dm)))) (aH (ze sz) (aH (ze j) (aH e l))) rfl)) ⟨g,g',?_⟩
 refine ez (xT g λx=>x++o) λk g2=> ?_;obtain ⟨o',J⟩:=set_list t z G (by rw [cC];exact v.2) g2 (Heap.SameBut.update ..) (by rw [Array.toList_append];exact r.append C);exact D _ _ _ _ s.toks _ h J o' .none
def HA{a:Nat}{w:Value}(b:Own c ρ st s.heap)(f:VR ρ s.heap (.ref a) w){xs:List V}(j:st[a]? =some (.list xs))(h:K (.int xs.length) st)(k:Kn c ρ s K Q):
  wpAny (model pw c.w) A (call (.builtin "len") [w]) Q E s:=by
 refine aY (b.list j f) λp vs n l m e g r sz hb=> ?_;subst e;refine Calls.call_len_list (bB g) (Int.ofNat_lt.mpr (zt (Nat.succ_le_succ (zt (ze sz) hb)) (zb rfl):vs.size<2^63)) ?_;rw [sz];exact k.now _ h b (.int _ _)
def zF{l:List V}{w:Value}(b:Own c ρ st s.heap)(f:VR ρ s.heap (.tup l) w)(a:l.length<=big)(h:K (.ref st.length) (st++ [.list l]))(m:Kn c ρ s K Q):
  wpAny (model pw c.w) A (call (.type "list") [w]) Q E s:=by
 cases f with
 |tup _ x vs n g r=>
  have sz:vs.size=l.length:=by rw [<-ly];exact r.length
  refine call_list_seq x (.inr rfl) g rfl rfl (λh' j k g'=> ?_) (by rw [sizeLine_eq];simp only [big]at a;exact zt (zt (ze sz) a) (zr 15777216));have q:bw s.heap h':=λy vs n e=>k _ _ e;refine cR (b.new (p:=(s.heap.objs.size,s.heap.objs.size)) (o:= .list l) k (Heap.fresh _) (Heap.fresh _) ⟨rfl,a,vs,j,g',r.mono (eE _ _) q⟩) λo' t=> ?_;exact m _ _ _ h' s.toks _ h t o' (eT b.len)
def A9:∀{xs:List V} {bs:List Bool},iM xs=some bs->xs=bs.map .bool:=by
 intro zl
 induction zl with
 |nil=>
  intro bs h;cases h;rfl
 |cons a r f=>
  intro bs h;cases a<;>first |exact oo h |skip
  refine aB (Option.map_eq_some_iff.mp h) λg e b=> ?_;subst b;rw [f e];rfl
def HB{a:Nat}{w:Value}(L:lA d A)(C:Own c ρ st s.heap)(M:VR ρ s.heap (.ref a) w){xs:List V}(N:st[a]? =some (.list xs)){bs:List Bool}(t:iM xs=some bs)
  (h:K (.bool (bs.any id)) st) (G:Kn c ρ s K Q):wpAny (model pw c.w) A (call (.builtin "any") [w]) Q E s:=by
 refine aY (C.list N M) λp vs n hp zz x g r sz hb=> ?_;subst x;have m:=A9 t;have y:A.in1.handled=none:=L.handled;refine call_any_walk (wpAny_pyIter_list (bB g) ?_);have q:p.1≠s.heap.objs.size:=λz=>by rw [z,Heap.fresh]at g;cases g
 refine⟨s.heap.objs.size,_,_,_,_,_,λi=>bs.getD i false,rfl,Walks.list y s.heap.objs.size p.1 q vs,⟨⟨_,Heap.get?_push_size _ rfl,rfl,rfl⟩,bB (Heap.d9 g)⟩,?_,λh' H k=> ?_⟩
 .intro i v Y Q' E' D I;have f:i<xs.length:=by rw [<-sz];exact(Array.getElem?_eq_some_iff.mp D).1
  refine aB (r.get (i:=i) (v:=xs[i]) (by simp [f])) λw' l u=> ?_;rw [nh,D]at l;cases l;have e:xs[i]= .bool (bs.getD i false):=by
   have j:i<bs.length:=by rw [m,bN]at f;exact f
   have:xs[i]? =(bs.map V.bool)[i]? :=by rw [m]
   simp [f,j]at this;rw [this];simp [j]
  rw [e]at u;cases u;exact wpAny_pure I
 .have J:∀b o,s.heap.get? b=some o->h'.get? b=some o:=λb o e=>k b o (by
   simp only [List.mem_singleton];rintro rfl;rw [Heap.fresh]at e;cases e) (Heap.d9 e)
  refine cR (C.kept J) λo' U=> ?_;have e:(List.range vs.size).any (λi=>bs.getD i false)=bs.any id:=by
   have j:vs.size=bs.length:=by rw [sz,m,bN]
   rw [j,Ad];simp only [CN,List.mem_range,id];constructor
   .rintro ⟨i,hi,e⟩;exact⟨bs[i],List.getElem_mem hi,by simpa [hi]using e⟩
   .rintro ⟨b,hb,rfl⟩
    obtain ⟨i,hi,e⟩:=Dg hb;exact⟨i,hi,by simp [hi,e]⟩
  rw [e];exact G _ _ _ h' H _ h U o' (.bool _)
def vq:∀{xs:List V} {bs:List Int},gK xs=some bs->xs=bs.map .int:=by
 intro zl
 induction zl with
 |nil=>
  intro bs h;cases h;rfl
 |cons a r f=>
  intro bs h;cases a<;>first |exact oo h |skip
  refine aB (Option.map_eq_some_iff.mp h) λg e b=> ?_;subst b;rw [f e];rfl
def HG{i:Int}{t:Tok}{l:List V}{w:Value}{f:List Int}(J:Own c ρ st s.heap)(I:VR ρ s.heap (.tup l) w)(G:gK l=some f)(h:K (.bool (f.contains i)) st)(M:Kn c ρ s K Q):
  wpAny (model pw c.w) A (compareOp .In (.int i t) w) Q E s:=by
 cases I with
 |tup _ x vs n g r=>
  have C:=vq G;have at_:∀y ∈ vs,∃j u,y= .int j u:=λy p=>by
   obtain ⟨k,H,rfl⟩:=Dg (Array.mem_def.mp p);have m:k<l.length:=by have:=r.length;exact zt H (ze this)
   refine aB (r.get (i:=k) (v:=l[k]) (by simp [m])) λU o q=> ?_;rw [gO H]at o;cases o;have L:k<f.length:=by rw [C,bN]at m;exact m
   have e:l[k]? =(f.map V.int)[k]? :=by rw [C]
   simp [m,L]at e;rw [e]at q;generalize vs.toList[k]=z at q;cases q;exact⟨_,_,rfl⟩
  refine in_tupleAt (λy=>match y with | .int j _=>j==i |_=>false) (fF g) (λy p=> ?_) ?_
  .refine cO (at_ y p) λj u D=> ?_;subst D;exact EqAt.int_int _ _ _ _
  .have e:(vs.any λy=>match y with | .int j _=>j==i |_=>false)=f.contains i:=by
    subst C;rw [<-Array.any_toList];clear at_ g h G;generalize vs.toList=ws at r
    induction f generalizing ws with
    |nil=>cases r;rfl
    |cons j f N=>
     cases r with
     |cons a b=>
      cases a;rw [List.any_cons,N _ b,List.contains_cons]
      congr 1
      exact Bool.beq_comm
   rw [e];exact M.now s.toks h J (.bool _)
def HF{neg:Bool}{v:V}{w:Value}(h:match v with | .none=>K (.bool (!neg)) st |_=>K (.bool neg) st)(a:Own c ρ st s.heap)(f:VR ρ s.heap v w)(b:Kn c ρ s K Q):
  wpAny (model pw c.w) A (compareOp (if neg then .IsNot else .Is) w .none) Q E s:=by
 have e:(w==Value.none)=(match v with | .none=>true |_=>false):=by cases f<;>rfl
 have h':K (.bool (if neg then !(w==Value.none)else(w==Value.none))) st:=by
  rw [e];cases v<;>cases neg<;>simpa using h
 cases neg
 .exact is_none (b.now s.toks h' a (.bool _))
 .exact isNot_none (b.now s.toks h' a (.bool _))
end
set_option tactic.hygienic true in
def gw(slice:Expr)(o i:Value):∃a,subscripted slice false o i=operate a (getItem o i):=by
 cases slice<;>first |exact⟨[o,i],rfl⟩ |skip
 rename_i c _;cases c<;>first |exact⟨[i,o],rfl⟩ |exact⟨[o,i],rfl⟩
section
variable{c:Cfg}{d:Nat}{ρ:dM}{st:St}{A:Around}{s:Shared}{K:KV}{Q:Value->Shared->Prop}{E:Value->Shared->Prop}{value slice:Expr}
def uH{a:Nat}{k:Int}{t:Tok}{w:Value}{v:V}(j:Own c ρ st s.heap)(x:VR ρ s.heap (.ref a) w){xs:List V}(D:st[a]? =some (.list xs))(q: -(2^62)<k/\k<2^62)
  (C:xs[(if k<0 then k+xs.length else k).toNat]? =some v) (f:0<=(if k<0 then k+xs.length else k)) (h:K v st) (o:Kn c ρ s K Q):
  wpAny (model pw c.w) A (PyProof.Rows.subscriptTail value slice w (.int k t)) Q E s:=by
 refine aY (j.list D x) λp vs n H b u g r sz hb=> ?_;subst u;refine ez (gw slice (.ref p.1) (.int k t)) λG z=> ?_;refine aB (r.get C) λy e m=> ?_;rw [nh]at e;refine BQ (bB g).typeIs PySem.slot_list_getitem.lookup ?_ z;by_cases l:k<0
 .rw [if_pos l]at e f;refine wpAny_getItem_list_neg (bB g) l (by rw [sz];exact Int.not_lt.mp λb=>dJ (xU _ _) (AI jb (AI bH ck)) (AI (AI bH jr) (.neg jr)) (bE f b) rfl) (Int.not_lt.mp λb=>dJ (fP _) (AI (AI (.neg (.num 4611686018427387904)) ck) (AI bH ck)) (AI bH (.neg (.num 9223372036854775808))) (bE q.1 b) rfl) (by rw [sz];exact e) (o.now s.toks h j m)
 .rw [if_neg l]at e f;exact wpAny_getItem_list (bB g) f (Int.not_le.mp λb=>dJ (fP _) (AI (AI bH ck) (.num 9223372036854775808)) (AI (.num 4611686018427387904) bH) (bE q.2 b) rfl) e (o.now s.toks h j m)
def xQ{l:List V}{k:Int}{t:Tok}{w:Value}{v:V}(j:Own c ρ st s.heap)(f:VR ρ s.heap (.tup l) w)(e:0<=k/\k<2^62)(q:l[k.toNat]? =some v)(h:K v st)(p:Kn c ρ s K Q):
  wpAny (model pw c.w) A (PyProof.Rows.subscriptTail value slice w (.int k t)) Q E s:=by
 cases f with
 |tup _ x vs n g r=>
  refine ez (gw slice (.ref x) (.int k t)) λz o=> ?_;refine aB (r.get q) λy a m=> ?_;rw [nh]at a;have u:=(Array.getElem?_eq_some_iff.mp a).1;refine BQ (fF g).typeIs PySem.F.slot_tuple_getitem.lookup ?_ o;exact PySem.P.getItem_tuple g (Int.not_lt.mp λb=>dJ (fP _) (AI jb (AI bH ck)) (AI bH (.neg (.num 9223372036854775808))) (bE e.1 b) rfl) (Int.not_le.mp λb=>dJ (fP _) (AI (AI bH ck) (.num 9223372036854775808)) (AI (.num 4611686018427387904) bH) (bE e.2 b) rfl) (seqIndex_of e.1 (by omega)) a (p.now s.toks h j m)
def DY{g:List (Nat×V)}{a:List (Str×Value)}{h:Heap}(e1:a.map (·.1)=g.map (λe=>sn e.1))(e2:cH ρ h (g.map (·.2)) (a.map (·.2))){n:Nat}{v:V}
  (inj:∀e ∈ g,sn e.1=sn n->e.1=n) (b:g.lookup n=some v):∃w,valueAt a (sn n)=some w/\VR ρ h v w:=by
 induction g generalizing a with
 |nil=>simp at b
 |cons f g x=>
  obtain ⟨m,u⟩:=f
  cases a with
  |nil=>simp at e1
  |cons o a=>
   simp only [cP,List.cons.injEq]at e1;simp only [cP]at e2
   cases e2 with
   |cons p q=>
    rw [List.lookup_cons]at b;by_cases j:n=m
    .subst j;simp at b;subst b;exact⟨o.2,by simp [valueAt,e1.1],p⟩
    .have hb:(n==m)=false:=by simp [j]
     rw [hb]at b;refine aB (x e1.2 q (λe t=>inj e (gh _ t)) b) λw k r=> ?_;refine⟨w,?_,r⟩;have l: ¬o.1=sn n:=λz=>j (inj (m,u) cW (e1.1▸z)).symm;dsimp only [valueAt]at k ⊢;dsimp only [List.find?_cons];simp only [l,decide_false];exact k
def Own.dict{a:Nat}{f:List (Nat×V)}{w:Value}(k:Own c ρ st s.heap)(m:st[a]? =some (.dict f))(l:VR ρ s.heap (.ref a) w):
  ∃p b,ρ[a]? =some p/\p.2=p.1/\w= .ref p.1/\(f.length<=500/\∀e ∈ f,e.1<NS)/\s.heap.DictOf (sk c) p.1 b/\b.map (·.1)=f.map (λe=>sn e.1)/\cH ρ s.heap (f.map (·.2)) (b.map (·.2)):=by
 cases l with
 |ref _ p h=>
  refine tN (k.rep a _ p m h) λe hb b g n j=> ?_;exact⟨p,b,h,e,rfl,hb,g,n,j⟩
def uI{a n:Nat}{t:Tok}{w:Value}{v:V}(b:Own c ρ st s.heap)(k:VR ρ s.heap (.ref a) w){j:List (Nat×V)}(G:st[a]? =some (.dict j))(z:n<NS)
  (x:j.lookup n=some v) (h:K v st) (u:Kn c ρ s K Q):wpAny (model pw c.w) A (PyProof.Rows.subscriptTail value slice w (.str (sn n) t)) Q E s:=by
 refine qV (b.dict G k) λp H J L f hb g m C=> ?_;subst f;refine ez (gw slice (.ref p.1) (.str (sn n) t)) λI q=> ?_;refine aB (DY m C (λe D=>tS (hb.2 e D) z) x) λy l o=> ?_;refine BQ g.typeIs PySem.slot_dict_getitem.lookup ?_ q;exact wpAny_getItem_of (strKind_is pw c.w _ _) g.mapOf l (u.now _ h b o)
def zK{b:List (Nat×V)}{a:List (Str×Value)}{h:Heap}(e1:a.map (·.1)=b.map (λe=>sn e.1))(e2:cH ρ h (b.map (·.2)) (a.map (·.2))){n:Nat}{v:V}{w:Value}
  (inj:∀e ∈ b,sn e.1=sn n->e.1=n) (nd:(a.map (·.1)).Nodup) (p:VR ρ h v w):
  (stored a (sn n) w).map (·.1)=(putL n v b).map (λe=>sn e.1)/\cH ρ h ((putL n v b).map (·.2)) ((stored a (sn n) w).map (·.2)):=by
 induction b generalizing a with
 |nil=>
  cases a with
  |nil=>exact⟨rfl,.cons p .nil⟩
  |cons _ _=>simp at e1
 |cons f b C=>
  obtain ⟨m,u⟩:=f
  cases a with
  |nil=>simp at e1
  |cons j a=>
   simp only [cP,List.cons.injEq]at e1;simp only [cP,lG]at nd;simp only [cP]at e2
   cases e2 with
   |cons q o=>
    by_cases k:m=n
    .subst k;have l:=map_store_of_not_mem a _ w (e1.1▸nd.1);dsimp only [stored,putL];rw [if_pos (by simp [e1.1]),if_pos rfl,cP,l,if_pos e1.1];exact⟨by simp [e1.1,e1.2],.cons p o⟩
    .have g: ¬j.1=sn n:=λz=>k (inj (m,u) cW (e1.1▸z));refine cR (C e1.2 o (λe y=>inj e (gh _ y)) nd.2) λx t=> ?_;have es:stored (j::a) (sn n) w=j::stored a (sn n) w:=by
      dsimp only [stored];simp only [List.any_cons,g,decide_false,Bool.false_or];split
      .rw [cP,if_neg g]
      .rfl
     rw [es];dsimp only [putL];rw [if_neg k];exact⟨by simp [e1.1,x],.cons q t⟩
theorem tT{n:Nat}{v:V}{e:Nat×V}:∀{b:List (Nat×V)},e ∈ putL n v b->e ∈ b\/e.1=n
 | [],h=>by simp [A4]at h;exact .inr (by rw [h])
 |(k,w)::r,h=>by
  dsimp only [putL]at h;split at h
  .rename_i f;refine a_ (List.mem_cons.mp h) (λa=> ?_) λh=> ?_
   any_goals subst a
   .exact .inr f
   .exact .inl (gh _ h)
  .refine a_ (List.mem_cons.mp h) (λa=> ?_) λh=> ?_
   any_goals subst a
   .exact .inl cW
   .exact(tT h).imp_left (gh _)
theorem ki{n:Nat}{v:V}:∀{a:List (Nat×V)},(putL n v a).lookup n=some v
 | []=>by simp [A4]
 |(k,w)::r=>by
  dsimp only [putL];by_cases h:k=n
  .rw [if_pos h,List.lookup_cons,h];simp
  .rw [if_neg h,List.lookup_cons];have:(n==k)=false:=by simp;exact λz=>h z.symm
   rw [this];exact ki
theorem lX{n m:Nat}{v:V}(a:m≠n):∀{b:List (Nat×V)},(putL n v b).lookup m=b.lookup m
 | []=>by
  have:(m==n)=false:=by simp [a]
  simp [A4,List.lookup_cons,this]
 |(k,w)::r=>by
  dsimp only [putL];by_cases h:k=n
  .rw [if_pos h,List.lookup_cons,List.lookup_cons];have:(m==k)=false:=by simp [h,a]
   rw [this]
  .rw [if_neg h,List.lookup_cons,List.lookup_cons,lX a]
theorem tR{n:Nat}{v:V}:∀(a:List (Nat×V)),(putL n v a).length<=a.length+1
 | []=>al
 |(k,w)::r=>by
  dsimp only [putL];split
  .simp
  .simp only [cV];have:=tR (n:=n) (v:=v) r;exact za this 1
def qN{a n:Nat}{t:Tok}{w H:Value}{v:V}{C:Unit->Shared->Prop}(D:Own c ρ st s.heap)(Y:VR ρ s.heap (.ref a) w)(hv:VR ρ s.heap v H){f:List (Nat×V)}(I:st[a]? =some (.dict f))(h:f.length<500/\n<NS)
  (L:∀h' l,Post ρ ρ s.heap h'->Own c ρ (st.set a (.dict (putL n v f))) h'->C () {s with heap:=h',toks:=l}):
  wpAny (model pw c.w) A (setItem w (.str (sn n) t) H) C E s:=by
 refine qV (D.dict I Y) λp q U e2 u hb g y r2=> ?_;subst u;have inj:∀e ∈ f,sn e.1=sn n->e.1=n:=λe m=>tS (hb.2 e m) h.2;have nd:=g.elim λj g=>g.elim λj g=>g.elim λj g=>g.2.2.2.2.2;have bW:q.length=f.length:=by rw [<-bN,y,bN]
 refine wpAny_setItem_pairs (strKind_is pw c.w _ _) g (λh' g' G=> ?_) (by rw [sizeLine_eq];exact zt (zt (ze bW) (zs h.1)) (zr 16776716));have l:bw s.heap h':=λx N k e=>by
  rw [G.2 x (λz=>by obtain ⟨o,g',nt⟩:=BV g;rw [z,g']at e;exact nt N k (fE e))];exact e
 refine cR (zK y r2 inj nd hv) λi1 J=> ?_;have hm:∀e ∈ putL n v f,e.1<NS:=λe m=>(tT m).elim (hb.2 e) λz=>z▸h.2;obtain ⟨o',p'⟩:=D.set (o':= .dict (putL n v f)) rfl I U (λb M j=>G.2 b M) ⟨e2,⟨by have:=tR (n:=n) (v:=v) f;exact zt this h.1,hm⟩,_,g',i1,J.mono (bS _) l⟩;exact L h' _ p' o'
def oH{a:Nat}{w q o:Value}{lo hi:Option Int}{ys:List V}(j:Own c ρ st s.heap)(m:VR ρ s.heap (.ref a) w){xs:List V}(f:st[a]? =some (.list xs)\/st[a]? =some (.iw xs))(v:IsPart q lo)(x:IsPart o hi)
  (u:∀vs:Array Value,vs.size=xs.length->cH ρ s.heap xs vs.toList->∃l:List Value,slicePick vs lo hi none=l.toArray/\cH ρ s.heap ys l) (hb:ys.length<=xs.length)
  (h:K (.ref st.length) (st++ [.list ys])) (z:Kn c ρ s K Q) {sl:Addr} (y:s.heap.IsSliceOf sl q o .none):wpAny (model pw c.w) A (PyProof.Rows.subscriptTail value slice w (.ref sl)) Q E s:=by
 obtain ⟨p,vs,n,k,_,rfl,g,r,sz,b⟩:∃p vs n,ρ[a]? =some p/\p.2=p.1/\w= .ref p.1/\s.heap.get? p.1=some (ni vs n)/\cH ρ s.heap xs vs.toList/\vs.size=xs.length/\xs.length<=big:=by
  refine a_ f (λf=> ?_) λf=> ?_
  .exact j.list f m
  .cases m with
   |ref _ p k=>
    refine tO (j.rep a _ p f k) λe hb vs n g r=> ?_;exact⟨p,vs,n,k,e,rfl,g,r,by rw [<-ly];exact r.length,hb⟩
 refine ez (gw slice (.ref p.1) (.ref sl)) λD t=> ?_;refine aB (u vs sz r) λl e Ou=> ?_;refine BQ (bB g).typeIs PySem.slot_list_getitem.lookup ?_ t;refine wpAny_getItem_list_slice (bB g) y v x .none (by decide) ?_ (by rw [sizeLine_eq];simp only [big]at b;exact zt (zt (ze sz) b) (zr 15777216));rw [e];refine cR (pO (n:=0) j Ou (zt hb b)) λo' C=> ?_;exact z _ _ _ _ s.toks _ h C o' (eT j.len)
def TJ{j n:Nat}(h: ¬j<=n):max (0:Int) (min (j:Int) (n:Int))=n:=by
 rw [Int.min_eq_right (Int.ofNat_le.mpr (xy (bK h))),Int.max_eq_right (iT n)]
def rC{a:Nat}{w:Value}{k:Int}{t:Tok}(g:Own c ρ st s.heap)(f:VR ρ s.heap (.ref a) w){xs:List V}(o:st[a]? =some (.list xs))(n:0<=k/\k<2^62)
  (h:K (.ref st.length) (st++ [.list (xs.drop k.toNat)])) (l:Kn c ρ s K Q) {sl:Addr} (m:s.heap.IsSliceOf sl (.int k t) .none .none):wpAny (model pw c.w) A (PyProof.Rows.subscriptTail value slice w (.ref sl)) Q E s:=by
 refine oH g f (.inl o) (.int k t) .none (λvs sz r=> ?_) (zt (ze List.length_drop) (Nat.sub_le _ _)) h l m;refine ez (Gn n.1) λj e=> ?_;subst e;by_cases b:j<=vs.size
 .exact⟨_,slicePick_from vs j b,r.drop _⟩
 .refine⟨[],?_,?_⟩
  .dsimp only [slicePick];have:sliceBounds (some (j:Int)) none none vs.size=((vs.size:Int),(vs.size:Int),1):=by
    simp only [sliceBounds,Option.getD_none];have p: ¬((j:Int)<0):=(LW _);simp only [p,if_false,show(1:Int)>0 by decide,if_true]
    congr 1
    exact TJ b
   rw [this];simp [sliceRange_one]
  .rw [List.drop_of_length_le (by show xs.length<=j;exact zt (zf sz) (zs (bK b)))];exact .nil
def nH{a:Nat}{w:Value}{k:Int}{t:Tok}(l:Own c ρ st s.heap)(g:VR ρ s.heap (.ref a) w){xs:List V}(p:st[a]? =some (.list xs)\/st[a]? =some (.iw xs))(o:0<=k/\k<2^62)
  (h:K (.ref st.length) (st++ [.list (xs.take k.toNat)])) (m:Kn c ρ s K Q) {sl:Addr} (n:s.heap.IsSliceOf sl .none (.int k t) .none):wpAny (model pw c.w) A (PyProof.Rows.subscriptTail value slice w (.ref sl)) Q E s:=by
 refine oH l g p .none (.int k t) (λvs sz r=> ?_) (zt (ze List.length_take) (Nat.min_le_right _ _)) h m n;refine ez (Gn o.1) λj f=> ?_;subst f;by_cases b:j<=vs.size
 .exact⟨_,slicePick_upto vs j b,r.take _⟩
 .refine⟨vs.toList,?_,?_⟩
  .dsimp only [slicePick];have:sliceBounds none (some (j:Int)) none vs.size=(((0:Nat):Int),(vs.size:Int),1):=by
    simp only [sliceBounds,Option.getD_none];have q: ¬((j:Int)<0):=(LW _);simp only [q,if_false,show(1:Int)>0 by decide,if_true]
    congr 1
    congr 1
    exact TJ b
   rw [this];simp only [sliceRange_one,pick_run];have e:(vs.toList.drop 0).take (vs.size-0)=vs.toList:=by rw [List.drop_zero,List.take_of_length_le (by simp)]
   rw [e]
  .rw [List.take_of_length_le (by show xs.length<=j;exact zt (zf sz) (zs (bK b)))];exact r
def rD{a:Nat}{w:Value}{j k:Int}{t u:Tok}(g:Own c ρ st s.heap)(f:VR ρ s.heap (.ref a) w){xs:List V}(n:st[a]? =some (.list xs))(b:0<=j/\j<=k/\k<=xs.length)
  (h:K (.ref st.length) (st++ [.list ((xs.take k.toNat).drop j.toNat)])) (l:Kn c ρ s K Q) {sl:Addr} (m:s.heap.IsSliceOf sl (.int j t) (.int k u) .none):wpAny (model pw c.w) A (PyProof.Rows.subscriptTail value slice w (.ref sl)) Q E s:=by
 refine oH g f (.inl n) (.int j t) (.int k u) (λvs sz r=> ?_) (zt (ze List.length_drop) (zt (Nat.sub_le _ _) (zt (ze List.length_take) (Nat.min_le_right _ _)))) h l m;refine ez (Gn b.1) λj e=> ?_;subst e;refine ez (Gn (Int.le_trans b.1 b.2.1)) λk e=> ?_;subst e;refine⟨_,slicePick_run vs j k (zt (Int.ofNat_le.mp b.2.2) (zf sz)) (Int.ofNat_le.mp b.2.1),?_⟩;rw [List.drop_take];exact(r.drop _).take _
def zL{l:Addr}{vs:Array Value}{n:Nat}{k:Int}{t:Tok}{v:Value}{o:Unit->Shared->Prop}(g:s.heap.get? l=some (ni vs n))(h:0<=k)(p:k<vs.size)(a:k<2^63)
  (m:∀h' b,h'.get? l=some (ni (vs.setIfInBounds k.toNat v) b)->Heap.SameBut l s.heap h'->o () {s with heap:=h'}):wpAny (model pw c.w) A (setItem (.ref l) (.int k t) v) o E s:=by
 have e:=bB g;unfold setItem
 try with_reducible refine wpAny_holding ?_
 first |refine wpAny_bind (wpAny_pure ?_) |skip
 refine wpAny_bind (wpAny_sequenceKey e.typeIs (by decide) ?_);refine wpAny_bind (wpAny_callSpecial?_slot e.typeIs PySem.slot_list_setitem
  (wpAny_call_entry PySem.slot_list_setitem e.typeIs PySem.entry_list_setitem ?_ (PySem.args_list_setitem _ _ _)))
 show wpAny _ _ (Builtin.List.listSubscript? (.int k t) >>= _) _ _ s;refine wpAny_bind (wpAny_listSubscript_int (fitsIndex_of h a) ?_);clear a;obtain ⟨j,rfl⟩:=Gn h;have q:j<vs.size:=Int.ofNat_lt.mp p;have f:=xw q;refine wpAny_bind (wpAny_bind (wpAny_seqItemAt g rfl (wpAny_pure ?_)));rw [f];show wpAny _ _ (setSeqItemAt l j v >>= _) _ _ s;obtain ⟨b,g'⟩:=xT g (·.setIfInBounds j v);refine wpAny_bind (wpAny_setSeqItemAt g rfl ?_)
 first
  |exact wpAny_bind (wpAny_pure (wpAny_pure ⟨.none,rfl,wpAny_pure (m _ b g' (Heap.SameBut.update ..))⟩))
  |exact wpAny_pure ⟨.none,rfl,wpAny_pure (m _ b g' (Heap.SameBut.update ..))⟩
def qM{a:Nat}{k:Int}{t:Tok}{w f:Value}{v:V}{j:Unit->Shared->Prop}(e:Own c ρ st s.heap)(q:VR ρ s.heap (.ref a) w)(z:VR ρ s.heap v f){xs:List V}(l:st[a]? =some (.list xs))(b:0<=k/\k<xs.length)
  (x:∀h' y,Post ρ ρ s.heap h'->Own c ρ (st.set a (.list (xs.set k.toNat v))) h'->j () {s with heap:=h',toks:=y}):
  wpAny (model pw c.w) A (setItem w (.int k t) f) j E s:=by
 refine aY (e.list l q) λp vs n o h m g r sz hb=> ?_;subst m;dsimp only [big]at hb;refine zL g b.1 (by rw [sz];exact b.2) (Int.not_le.mp λh=>dJ (xU _ _) (AI (AI bH ck) (AI jr (.num 9223372036854775808))) (AI jr (AI (.num 1000000) bH)) (bE b.2 (bE (Int.ofNat_le.mpr hb) h)) rfl) λh' D g' u=> ?_;obtain ⟨o',C⟩:=set_list (ys:=xs.set k.toNat v) e l o (by rw [vO];simp only [big];exact hb) g' u (by rw [Array.toList_setIfInBounds];exact r.set _ z);exact x h' s.toks C o'
end
end
def xB(K:Frag)(k:Nat):Bool:=
 makesIn K (ca k)&&(findIn K (.ref (ca k)) "__getattribute__"==some (some (.builtin "object.__getattribute__")))&&(findIn K (.ref (ca k)) "__getattr__"==some none)&&
 (findIn K (.ref (ca k)) "__setattr__"==some (some (.builtin "object.__setattr__")))&&plainOver K (ca k)&&hasDictIn K (ca k)&&keepIn K (.ref (ca k))&&
 (match cT k with
  |some f=>findIn K (.ref (ca k)) "__init__"==some (some (.ref (pN f)))&&typeIn K (.ref (pN f))==some (.type "function")
  |none=>findIn K (.ref (ca k)) "__init__"==some (some (.builtin "object.__init__")))
def qB(K:Frag)(k n:Nat):Bool:=match fj k n with
 |some g=>g==999||(findIn K (.ref (ca k)) (sn n)==some (some (.ref (pN g)))&&typeIn K (.ref (pN g))==some (.type "function"))
 |none=>findIn K (.ref (ca k)) (sn n)==some none
structure fT (c:Cfg):Prop where
 X:c.K.In c.b0
 lim:c.b0.NoLimit
 Qh:c.b0.Ns mainGlobals c.mg
 Tt:c.b0.Ns builtinsNs c.mb
 gv:∀g,g<Lr.length->∃w,c.mg (Str.ofString (Lr.getD g ""))=some w/\VR [] c.b0 (bU g) w
 gf:∀f,f<D5.length->yX f=false->c.mg (Str.ofString (D5.getD f ""))=some (.ref (pN f))
 gk:∀k,k<16->c.mg (Str.ofString (Qi.getD k ""))=some (.ref (ca k))
 gb:∀x ∈ ["len","sorted","any"],c.mg (Str.ofString x)=none/\c.mb (Str.ofString x)=some (.builtin x)
 gt:∀x ∈ ["list","range","reversed"],c.mg (Str.ofString x)=none/\c.mb (Str.ofString x)=some (.type x)
 cls:∀k,k<16->xB c.K k=true
 fld:∀k,k<16->∀n,n<NS->qB c.K k n=true
 keep:∀f,f<D5.length->keepIn c.K (.ref (pN f))=true
 sm:∃o,c.b0.get? sysModules=some o
structure tQ (K:Frag) (k:Nat):Prop where
 makes:makesIn K (ca k)=true
 ga:findIn K (.ref (ca k)) "__getattribute__"=some (some (.builtin "object.__getattribute__"))
 gt:findIn K (.ref (ca k)) "__getattr__"=some none
 sa:findIn K (.ref (ca k)) "__setattr__"=some (some (.builtin "object.__setattr__"))
 over:plainOver K (ca k)=true
 dict:hasDictIn K (ca k)=true
 keep:keepIn K (.ref (ca k))=true
 ini:match cT k with
  |some f=>findIn K (.ref (ca k)) "__init__"=some (some (.ref (pN f)))/\typeIn K (.ref (pN f))=some (.type "function")
  |none=>findIn K (.ref (ca k)) "__init__"=some (some (.builtin "object.__init__"))
def tQ.of{K:Frag}{k:Nat}(h:xB K k=true):tQ K k:=by
 dsimp only [xB]at h;simp only [cM,beq_iff_eq]at h;obtain ⟨⟨⟨⟨⟨⟨⟨l,g⟩,o⟩,j⟩,n⟩,b⟩,m⟩,a⟩:=h;refine⟨l,g,o,j,n,b,m,?_⟩
 cases e:cT k with
 |none=>rw [e]at a;simpa using a
 |some f=>rw [e]at a;simpa using a
def BW{es:List DictEntry}(h:AG es):es.any (·.refKey)=false:=by
 rw [CV];intro e a;refine cO (h e a) λy t z=> ?_;simp [DictEntry.refKey,z]
def BX{es:List DictEntry}(h:AG es)(x:Str)(n:Nat):lookIn x (dictOf es n)=some (lW es x):=by
 dsimp only [lookIn_dict];dsimp only [getL,lW]
 cases List.find? (λe=>e.key.isStr x) es with
 |some e=>rfl
 |none=>simp only [BW h,rB,if_false];rfl
theorem vg{name:Str}{hsh:Int}{t:Tok}{v:Value}(x:Str):∀{es:List DictEntry},AG es->lW (PySem.W.putL name hsh (.str name t) v es) x=if x=name then some v else lW es x
 | [],_=>by
  dsimp only [PySem.W.putL,lW];by_cases a:x=name
  .subst a;simp [Value.isStr]
  .have:(name==x)=false:=by simp;exact λz=>a z.symm
   simp [Value.isStr,this,a]
 |e::es,h=>by
  refine cO (h e cW) λy u g=> ?_;have j:=vg (name:=name) (hsh:=hsh) (t:=t) (v:=v) x (λe k=>h e (gh _ k));dsimp only [PySem.W.putL];dsimp only [lW]at j ⊢;rw [g];simp only [Value.isStr];by_cases f:y=name
  .subst f;simp only [beq_self_eq_true,if_true,List.find?_cons,g,Value.isStr];by_cases a:x=y
   .subst a;simp
   .have:(y==x)=false:=by simp;exact λz=>a z.symm
    simp [this,a]
  .have hb:(y==name)=false:=by simp [f]
   simp only [hb,rB,if_false,List.find?_cons,g,Value.isStr];by_cases b:y=x
   .subst b;simp [f]
   .have:(y==x)=false:=by simp [b]
    simp only [this];exact j
def Gv{name:Str}{hsh:Int}{t:Tok}{v:Value}:∀{es:List DictEntry},AG es->AG (PySem.W.putL name hsh (.str name t) v es):=by
 intro zl
 induction zl with
 |nil=>
  intro _;exact λe a=>by simp [PySem.W.putL]at a;subst a;exact⟨_,_,rfl⟩
 |cons e es g=>
  intro h;exact λf a=>by
   dsimp only [PySem.W.putL]at a;split at a
   .refine a_ (List.mem_cons.mp a) (λb=> ?_) λa=> ?_
    any_goals subst b
    .exact h e cW
    .exact h f (gh _ a)
   .refine a_ (List.mem_cons.mp a) (λb=> ?_) λa=> ?_
    any_goals subst b
    .exact h f cW
    .exact g (λe a=>h e (gh _ a)) f a
theorem BY{name:Str}{hsh:Int}{t:Tok}{v:Value}:∀(es:List DictEntry),(PySem.W.putL name hsh (.str name t) v es).length=es.length+(if(lW es name).isSome then 0 else 1)
 | []=>rfl
 |e::es=>by
  have b:=BY (name:=name) (hsh:=hsh) (t:=t) (v:=v) es;unfold PySem.W.putL;unfold lW at b ⊢;by_cases h:e.key.isStr name=true
  .simp [h]
  .simp only [Bool.not_eq_true]at h;simp only [h,rB,if_false,cV,b,List.find?_cons];exact iW (cD λa=>bx (fL _ _) (AN (AN (AN aE aA) aI) aA) (AN (AN aE aI) aA) a rfl) (cD λa=>bx (fL _ _) (AN (AN (AN aE aI) aA) aA) (AN (AN aE aA) aI) a rfl)
theorem qW{n:Nat}{v:V}:∀(b:List (Nat×V)),(putL n v b).length=b.length+(if(b.lookup n).isSome then 0 else 1)
 | []=>rfl
 |(k,w)::r=>by
  dsimp only [putL];by_cases h:k=n
  .subst h;simp
  .have:(n==k)=false:=by simp;exact λz=>h z.symm
   rw [if_neg h,cV,qW r,cV];have e:List.lookup n ((k,w)::r)=List.lookup n r:=by rw [List.lookup_cons,this]
   rw [e];exact iW (cD λa=>bx (fL _ _) (AN (AN (AN aE aA) aI) aA) (AN (AN aE aI) aA) a rfl) (cD λa=>bx (fL _ _) (AN (AN (AN aE aI) aA) aA) (AN (AN aE aA) aI) a rfl)
def lookup_mem{a:List (Nat×V)}{f:Nat}{v:V}(h:a.lookup f=some v):(f,v) ∈ a:=by
 induction a with
 |nil=>simp at h
 |cons e a j=>
  obtain ⟨g,u⟩:=e;rw [List.lookup_cons]at h;by_cases b:f=g
  .subst b;simp at h;subst h;exact cW
  .have:(f==g)=false:=by simp [b]
   rw [this]at h;exact gh _ (j h)
section
variable{c:Cfg}{d:Nat}{ρ:dM}{st:St}{A:Around}{s:Shared}{K:KV}{Q:Value->Shared->Prop}{E:Value->Shared->Prop}
def fT.XX(T:fT c)(a:Own c ρ st s.heap):c.K.In s.heap:=T.X.keeps a.keep
def Own.inst{a k:Nat}{b:List (Nat×V)}{w:Value}(j:Own c ρ st s.heap)(m:st[a]? =some (.inst k b))(l:VR ρ s.heap (.ref a) w):
  ∃p es n,ρ[a]? =some p/\w= .ref p.1/\((∀e ∈ b,fj k e.1=none)/\k<16/\b.length<=500)/\s.heap.get? p.1=some (AE (ca k) p.2)/\s.heap.get? p.2=some (dictOf es n)/\(AG es/\es.length<=b.length)/\Du ρ s.heap b (lW es):=by
 cases l with
 |ref _ p f=>
  refine Dt (j.rep a _ p m f) λh es n g g' q r=> ?_;exact⟨p,es,n,f,rfl,h,g,g',q,r⟩
def Dv{h:Heap}{v:V}{w:Value}(x:VR ρ h v w):handedIn w=true:=by cases x<;>rfl
def Dw{a k f:Nat}{t:List (Nat×V)}{v:V}{w:Value}{j:Bool}(T:fT c)(b:Own c ρ st s.heap)(hw:VR ρ s.heap (.ref a) w)(H:st[a]? =some (.inst k t))(m:f<NS)(q:t.lookup f=some v)
  (h:K v st) (D:Kn c ρ s K Q):wpAny (model pw c.w) A (getAttr w (sn f) j) Q E s:=by
 refine aY (b.inst H hw) λp es n L o l g g' y r=> ?_;subst o;have C:=tQ.of (T.cls k l.2.1);have F:=T.fld k l.2.1 f m;have G:=l.1 _ (lookup_mem q);dsimp only [qB]at F;rw [G]at F;have z:findIn c.K (.ref (ca k)) (sn f)=some none:=by simpa using F
 have:=r f m;rw [q]at this;refine aB this λx e u=> ?_;have I:InstAt s.heap p.1 (AE (ca k) p.2) (ca k) (some (dictOf es n)):=⟨g,rfl,rfl,g'⟩;exact get_value (T.XX b) I C.ga (findObj_own C.dict z rfl (by rw [BX y.1,e])) (Dv u) (D.now _ h b u)
set_option tactic.hygienic true in
def xC{a k f:Nat}{j:List (Nat×V)}{v:V}{w o:Value}{QU:Unit->Shared->Prop}(T:fT c)(L:Own c ρ st s.heap)(hw:VR ρ s.heap (.ref a) w)(hv:VR ρ s.heap v o)(ha:st[a]? =some (.inst k j))(N:f<NS)(U:fj k f=none/\j.length<500)
  (hQ:∀h' t,Post ρ ρ s.heap h'->Own c ρ (st.set a (.inst k (putL f v j))) h'->QU () {s with heap:=h',toks:=t}):wpAny (model pw c.w) A (setAttr w (sn f) o) QU E s:=by
 refine aY (L.inst ha hw) λp es n hp a3 hk g g' l r=> ?_;subst a3;have C:=tQ.of (T.cls k hk.2.1);have F:=T.fld k hk.2.1 f N;dsimp only [qB]at F;rw [U.1]at F;have a2:findIn c.K (.ref (ca k)) (sn f)=some none:=by simpa using F
 have I:InstAt s.heap p.1 (AE (ca k) p.2) (ca k) (some (dictOf es n)):=⟨g,rfl,rfl,g'⟩;have X:=T.XX L;have ht:takerIn c.K (ca k) (sn f)=some none:=by unfold takerIn;rw [a2];rfl
 refine set_plain X I C.sa (osa_open X I C.over ht λb=> ?_);refine aB (any_some C.dict) λcd hc a0=> ?_;refine wpAny_bind (wpAny_pure (wpAny_bind (wpAny_bind (wpAny_loadPart g (wpAny_bind ((looks_clsIn X hc).at ?_))))));rw [a0];refine wpAny_pure (wpAny_bind (wpAny_pure (wpAny_bind ?_)));refine wpAny_bind (wpAny_bind (wpAny_askSetting (wpAny_pure (wpAny_bind (wpAny_mkText (wpAny_bind (wpAny_loadPart g' ?_)))))));have nr:aRefKeyMayBeTheName (sn f) es.toArray=false:=by
  rw [aRefKeyMayBeTheName_at];have:=BW l.1;simp [this]
 show wpAny _ _ (if aRefKeyMayBeTheName (sn f) es.toArray=true then _ else _) _ _ _;rw [nr];refine wpAny_updatePart g' ?_;generalize h:PySem.W.putL (sn f) (PyData.keyHash c.w.params (sn f)) (.str (sn f) (s.toks+1)) o es=es';have g2:(s.heap.update p.2 (Obj.putName (sn f) (PyData.keyHash c.w.params (sn f)) (.str (sn f) (s.toks+1)) o)).get? p.2=some (dictOf es' (PySem.W.putN (sn f) es n)):=by
  rw [Heap.get?_update_self _ g' (by rw [putName_dict];rfl),putName_dict,h]
 have Y:es'.length<=(putL f v j).length:=by
  rw [<-h,BY,qW];have:=r f N
  cases e:j.lookup f with
  |none=>rw [e]at this;rw [this];simp;exact l.2
  |some u=>rw [e]at this;obtain ⟨y,M,_⟩:=this;rw [M];simp;exact l.2
 have H:(putL f v j).length<=500:=by have:=tR (n:=f) (v:=v) j;exact zt this U.2
 refine wpAny_bind (wpAny_lookBehind g2 (pastItsLine_dict (by rw [List.size_toArray,sizeLine_eq];exact zt (zt Y H) (zr 16776717))) ?_);have D:Heap.SameBut p.2 s.heap (s.heap.update p.2 (Obj.putName (sn f) (PyData.keyHash c.w.params (sn f)) (.str (sn f) (s.toks+1)) o)):=Heap.SameBut.update ..;obtain ⟨h',J⟩:∃h',h'=s.heap.update p.2 (Obj.putName (sn f) (PyData.keyHash c.w.params (sn f)) (.str (sn f) (s.toks+1)) o):=⟨_,rfl⟩;rw [<-J]at g2 D;refine wpAny_pure ?_;have ne:p.1≠p.2:=λz=>by rw [z,g']at g;cases g
 have t:bw s.heap h':=λx ws k e=>by
  rw [D.2 x (λz=>by rw [z,g']at e;exact absurd (congrArg Obj.cls (fE e)) (by simp [dictOf]))];exact e
 have a5:Du ρ h' (putL f v j) (lW es'):=λm hn=>by
  rw [<-h,vg _ l.1];by_cases q:m=f
  .subst q;rw [ki];exact⟨o,by simp,hv.mono (bS _) t⟩
  .rw [lX q];have:=r m hn;have G:sn m≠sn f:=λz=>q (tS hn N z);split
   .rename_i e;rw [e]at this;simp [G,this]
   .rename_i u e;rw [e]at this;obtain ⟨x,M,vx⟩:=this;exact⟨x,by simp [G,M],vx.mono (bS _) t⟩
 refine cR (L.set (o':= .inst k (putL f v j)) rfl ha hp (λb zz h2=>D.2 b h2) ⟨⟨λe he=>(tT he).elim (hk.1 e) λz=>z▸U.1,hk.2.1,H⟩,es',_,(D.2 p.1 ne).trans g,g2,⟨h▸Gv l.1,Y⟩,a5⟩) λo' p'=> ?_;have fin:=hQ h' (s.toks+1+1) p' o';rw [J]at fin;exact fin
end
section
open PySem.Calls PyProof.Rows
def oq(c:Cfg)(d:Nat)(C:aR):Prop:=
 ∀(f:Nat) (vs:List V) (st:St) (K:KV) (A:Around) (ρ:dM) (s:Shared) (e:List Value) (R:Result->Shared->Prop),C f vs st K->Dy d A->Own c ρ st s.heap->cH ρ s.heap vs e->
  (∀v b a h' g w,K v b->Post ρ a s.heap h'->Own c a b h'->VR a h' v w->R (.ok (.ret w)) {s with heap:=h',toks:=g})->
  codeAny (model pw c.w) A (.call (.ref (pN f)) ⟨e,[]⟩) R s
noncomputable def d8(e:Expr):Bool:=e.ctorIdx != 22
def mX{e:Expr}(h:d8 e=true)(r:List Expr)(env:Env):starEach (e::r) env=(false,eval e env)::starEach r env:=by
 cases e<;>first |rfl |exact ff h
def eK{env:Env}{pos:Pos}:∀{r:List Expr},r.all d8=true->(backTo pos (starEach r env)).any (·.1)=false:=by
 intro zl
 induction zl with
 |nil=>
  intro _;exact rfl
 |cons e r a=>
  intro h;simp only [List.all_cons,cM]at h;rw [mX h.1];show(false||(backTo pos (starEach r env)).any (·.1))=false;rw [a h.2];rfl
section
variable{M:Model}{A:Around}{E:Value->Shared->Prop}{s:Shared}{env:Env}{pos:Pos}
def i0{f:Value}{r:List Expr}{Q:Args->Shared->Prop}(b:r.all d8=true)(h:wpAny M A (spliced (backTo pos (starEach r env))) (λvs a=>Q ⟨vs,[]⟩ a) E s):
  wpAny M A (evalArgs f true (backTo pos (starEach r env)) []) Q E s:=by
 cases r with
 |nil=>
  have h':=h;refine wpAny_bind (wpAny_mono h' (λvs a j=> ?_) λg g x=>x);refine wpAny_bind (wpAny_pure ?_);refine wpAny_holding ?_;exact wpAny_bind (wpAny_pure (wpAny_bind (wpAny_pure (wpAny_pure j))))
 |cons e r=>
  simp only [List.all_cons,cM]at b;rw [mX b.1]at h ⊢;exact evalArgs_plain h
end
section
variable{c:Cfg}{d:Nat}{env:Env}{Γ:Ctx}{m:Loc}{st:St}{C:aR}
def WE.Dz{x:Str}{pos:Pos}{v:V}{w:Value}{K:KV}(T:fT c)(l:Γ.nm.lookup x=some .globalImplicit)(g:(x==("__debug__":Str))=false)(k:c.mg x=some w)(o:∀ρ h,bw c.b0 h->VR ρ h v w)(p:K v st):
  WE c d env Γ (.Name x pos) m st K:=by
 intro A ρ s Q E q b a j;have f:env.kindOf x=some .globalImplicit:=by unfold Env.kindOf;rw [a.nm];exact l
 refine Name_function_global a.kind f (loadGlobal_global ?_ k ?_) g
 .rw [a.glob];exact T.Qh.keeps b.keep
 .exact j _ _ _ _ s.toks _ p Post.refl b (o ρ s.heap λx vs n e=>b.keep _ _ e)
def qX{x:Str}{pos:Pos}{w:Value}{A:Around}{ρ:dM}{s:Shared}{Q:Value->Shared->Prop}{E:Value->Shared->Prop}(T:fT c)(f:Own c ρ st s.heap)(a:bk c env Γ ρ m s.heap)(g:Γ.nm.lookup x=some .globalImplicit)(e:(x==("__debug__":Str))=false)
  (j:c.mg x=some w) (h:Q w s):wpAny (model pw c.w) A (eval (.Name x pos) env) Q E s:=by
 have b:env.kindOf x=some .globalImplicit:=by unfold Env.kindOf;rw [a.nm];exact g
 refine Name_function_global a.kind b (loadGlobal_global ?_ j h) e;rw [a.glob];exact T.Qh.keeps f.keep
def jq{x:Str}{pos:Pos}{w:Value}{A:Around}{ρ:dM}{s:Shared}{Q:Value->Shared->Prop}{E:Value->Shared->Prop}(T:fT c)(e:Own c ρ st s.heap)(a:bk c env Γ ρ m s.heap)(j:Γ.nm.lookup x=some .globalImplicit)(g:(x==("__debug__":Str))=false)
  (f:c.mg x=none/\c.mb x=some w) (h:Q w s):wpAny (model pw c.w) A (eval (.Name x pos) env) Q E s:=by
 have b:env.kindOf x=some .globalImplicit:=by unfold Env.kindOf;rw [a.nm];exact j
 refine Name_function_global a.kind b (loadGlobal_builtin ?_ f.1 ?_ f.2 h) g
 .rw [a.glob];exact T.Qh.keeps e.keep
 .rw [a.blt];exact T.Tt.keeps e.keep
def Nn{f:Nat}{x:Str}{D pos:Pos}{args:List Expr}{K:KV}{t:List V->St->Prop}(T:fT c)(z:oq c d C)(a:f<D5.length)(Y:x=Str.ofString (D5.getD f ""))(b:yX f=false)
  (I:Γ.nm.lookup x=some .globalImplicit) (y:(x==("__debug__":Str))=false) (u:args.all d8=true) (N:WL c d env Γ args m st t) (j:∀vs st,t vs st->C f vs st K):
  WE c d env Γ (.Call (.Name x D) args [] pos) m st K:=by
 intro A ρ s Q E k o n G;refine wpAny_Call_NameR (qX T o n I y (Y▸T.gf f a b) ?_);refine callWith_of (by simp [eK u]) (keeps_K (T.keep f a)) (i0 u (N A ρ s pos _ E k o n ?_));intro vs g h h1 tk L k1 U l J _;refine⟨T.X.keeps l.keep,wpAny_call ?_⟩;exact z f vs g K A h _ L _ (j _ _ k1) k.Ls l J λv q e h' p w H pp oo vv=>G v q e h' p w H (U.trans pp) oo vv
def Gw{k:Nat}{vs:List V}{z:List Value}{A:Around}{ρ:dM}{s:Shared}{K:KV}{R:Result->Shared->Prop}(T:fT c)(U:oq c d C)(I:k<16)(D:lA d A)(l:Own c ρ st s.heap)(H:cH ρ s.heap vs z)
  (h:match cT k with
   |some f=>C f (.ref st.length::vs) (st++ [.inst k []]) λv a=>v= .none/\K (.ref st.length) a
   |none=>vs=[]/\K (.ref st.length) (st++ [.inst k []]))
  (x:∀v a j h' y w,K v a->Post ρ j s.heap h'->Own c j a h'->VR j h' v w->R (.ok (.ret w)) {s with heap:=h',toks:=y}):
  codeAny (model pw c.w) A (.call (.ref (ca k)) ⟨z,[]⟩) R s:=by
 have L:=tQ.of (T.cls k I);have X:=T.XX l;have Y:=makes_of (M:=model pw c.w) X L.makes;obtain ⟨hh,g,dd,t,os⟩:=s;dsimp only at l H X Y x ⊢;have k1:∀b o,hh.get? b=some o->((hh.push emptyDict).push (instObj (ca k) hh.objs.size)).get? b=some o:=λb o e=>Heap.get?_push_of_some _ (Heap.get?_push_of_some _ e);have g1:((hh.push emptyDict).push (instObj (ca k) hh.objs.size)).get? (hh.objs.size+1)=some (AE (ca k) hh.objs.size):=by
  have:=Heap.get?_push_size (hh.push emptyDict) (o:=instObj (ca k) hh.objs.size) rfl
  rwa [Heap.size_push]at this
 have g2:((hh.push emptyDict).push (instObj (ca k) hh.objs.size)).get? hh.objs.size=some (dictOf [] 0):=Heap.get?_push_of_some _ (Heap.get?_push_size hh rfl);have fr:hh.get? (hh.objs.size+1)=none:=by
  cases e:hh.get? (hh.objs.size+1)with
  |none=>rfl
  |some o=>exact absurd (Heap.lt_size e) (Nat.not_lt.mpr (Nat.le_succ _))
 obtain ⟨o',u⟩:=l.new (p:=(hh.objs.size+1,hh.objs.size)) (o:= .inst k []) k1 fr (Heap.fresh hh)
  ⟨⟨λq G=>absurd G (tK),I,(gP _)⟩,[],0,g1,g2,⟨λq G=>absurd G (tK),bP _⟩,λn hn=>rfl⟩
 have hi:=L.ini
 cases e:cT k with
 |none=>
  rw [e]at h hi;obtain ⟨rfl,hK⟩:=h;cases H;refine make_core Y (looks_findIn X hi) (λself=>Looks.of_pure (oi_bind self)) (.inr ⟨rfl,rfl⟩) ?_;have t1:Looks (model pw c.w) ((hh.push emptyDict).push (instObj (ca k) hh.objs.size)) (typeOf (.ref (hh.objs.size+1))) (.ref (ca k)):=(Looks.ld g1).andThen .now;have Q:Looks (model pw c.w) ((hh.push emptyDict).push (instObj (ca k) hh.objs.size)) (isInstance (.ref (hh.objs.size+1)) (.type "object")) true:=t1.andThen (Y.top.keeps k1);refine codeAny_call_builtin oi_plain entry_oi (@check_slot (model pw c.w) _ _ _ "object.__init__" "object" "__init__" (.ref (hh.objs.size+1)) [] [] _ oi_kind oi_split Q (oi_args (.ref (hh.objs.size+1))) ?_);exact wpAny_pure (And.intro rfl (x _ _ _ _ t _ hK u o' (eT l.len)))
 |some f=>
  rw [e]at h hi;refine make_core Y (looks_findIn X hi.1) (λself=>bind_fn X self hi.2) (.inl rfl) ?_;refine U f _ _ _ _ (ρ++ [(hh.objs.size+1,hh.objs.size)]) ⟨(hh.push emptyDict).push (instObj (ca k) hh.objs.size),g,dd,t,os⟩ (.ref (hh.objs.size+1)::z) _ h ?_ o' (.cons (eT l.len) (H.mono u.pre u.tup)) ?_
  .exact⟨D.handled,by have:=D.depth;show A.depth+1+2*d<=701;exact cD λq=>bx (fL _ _) (AN (AN aE (.mulL 2 aI)) (AN (.num 701) aA)) (AN (.num 700) (AN (AN aE aA) (.mulL 2 aI))) (aH this q) rfl,by have:=D.units;show A.units+1+60*d<=6030;exact cD λq=>bx (fL _ _) (AN (AN aE (.mulL 60 aI)) (AN (.num 6030) aA)) (AN (.num 6000) (AN (AN aE aA) (.mulL 60 aI))) (aH this q) rfl⟩
  .rintro v a j h' y w ⟨rfl,kk⟩ J oo vv
   cases vv;refine⟨rfl,x _ _ _ _ y _ kk (u.trans J) oo ?_⟩;exact(eT l.len).mono J.pre (bw.refl _)
def Qj{k:Nat}{x:Str}{y pos:Pos}{args:List Expr}{K:KV}{p:List V->St->Prop}(T:fT c)(u:oq c d C)(a:k<16)(L:x=Str.ofString (Qi.getD k ""))
  (G:Γ.nm.lookup x=some .globalImplicit) (t:(x==("__debug__":Str))=false) (q:args.all d8=true) (I:WL c d env Γ args m st p)
  (g:∀vs st,p vs st->match cT k with
   |some f=>C f (.ref st.length::vs) (st++ [.inst k []]) λv b=>v= .none/\K (.ref st.length) b
   |none=>vs=[]/\K (.ref st.length) (st++ [.inst k []])):
  WE c d env Γ (.Call (.Name x y) args [] pos) m st K:=by
 intro A ρ s Q E h n l z;refine wpAny_Call_NameR (qX T n l G t (L▸T.gk k a) ?_);refine callWith_of (by simp [eK q]) (keeps_K (tQ.of (T.cls k a)).keep) (i0 q (I A ρ s pos _ E h n l ?_));intro vs Y a0 h1 tk ws k1 J j H _;refine⟨T.X.keeps j.keep,wpAny_call ?_⟩;exact Gw T u a h j H (g _ _ k1) λv b e h' o w D U oo N=>z v b e h' o w D (J.trans U) oo N
noncomputable def Lu(F:List Expr->Bool)(G:Str->Bool):Expr->Bool
 | .Call _ a _ _=>F a
 | .Name x _=>G x
 |_=>false
def cZ(e:Expr):Bool:=e.ctorIdx != 16||Lu (λa=> !a.isEmpty) (λb=>false) e
set_option tactic.hygienic true in
def ou{o:Expr}{attr:Str}{whole:Sem Value}(h:cZ o=true):attributeBase o attr env whole=whole:=by
 cases o<;>first |rfl |skip
 rename_i f a b _
 cases a with
 |nil=>exact ff h
 |cons _ _=>first |rfl |(cases f<;>rfl)
def DA(a:Expr)(attr:Str)(pos:Pos):eval (.Attribute a attr pos) env=(do
 let o <-attributeBase a attr env (eval a env)
 standAt pos.atName
 let r <-holding [o] (getAttr o attr true)
 letTemporaryGo a o r
 pure r):=rfl
set_option tactic.hygienic true in
def Np{e:Expr}{f:Nat}{x:Str}{pos:Pos}{K:KV}{q:KV}(T:fT c)(hb:cZ e=true)(l:f<NS)(U:x=sn f)(I:WE c d env Γ e m st q)
  (g:∀v st,q v st->match v with
   | .ref a=>match st[a]? with
    |some (.inst _ b)=>match b.lookup f with
     |some v=>K v st
     |none=>False
    |_=>False
   |_=>False):WE c d env Γ (.Attribute e x pos) m st K:=by
 intro A ρ s Q E G N J y;subst U;rw [DA,ou hb];refine wpAny_bind (I A ρ s _ E G N J ?_);intro v j a1 h1 tk w k1 L H D;have:=g _ _ k1;cases v<;>try exact this.elim
 rename_i a;dsimp only at this
 cases ea:j[a]? with
 |none=>rw [ea]at this;exact this.elim
 |some o=>
  rw [ea]at this;cases o<;>try exact this.elim
  rename_i k b;dsimp only at this
  cases el:b.lookup f with
  |none=>rw [el]at this;exact this.elim
  |some v=>
   rw [el]at this;refine wpAny_bind (wpAny_standAt (wpAny_bind (wpAny_holding (Dw T H D ea l el this ?_))));intro u p h h' n t z pp oo Y;exact wpAny_bind (wpAny_letTemporaryGo (wpAny_pure (y u p h h' n t z (L.trans pp) oo Y)))
end
section
variable{c:Cfg}{d:Nat}{env:Env}{Γ:Ctx}{m:Loc}{st:St}{C:aR}
def tU{env:Env}{pos:Pos}{args:List Expr}(f:args.all d8=true)(b:args.length<30):
  ((backTo pos (starEach args env)).all (λx=> !x.1)&&(backToKw pos (keywordEach [] env)).all (λx=>x.1.isSome)&&decide (args.length+([]:List Keyword).length+(if([]:List Keyword).isEmpty then 0 else 1)<30))=true:=by
 have a:(backTo pos (starEach args env)).all (λx=> !x.1)=true:=by
  have:=eK (env:=env) (pos:=pos) f;rw [CV]at this;rw [Dq];intro x e;have:=this x e;simpa using this
 rw [a];exact decide_eq_true b
set_option tactic.hygienic true in
def Nq{o:Expr}{f:Nat}{x:Str}{b pos:Pos}{args:List Expr}{K KO:KV}(T:fT c)(hC:oq c d C)(hb:cZ o=true)(j:f<NS)(hx:x=sn f)(D:args.all d8=true)(hl:args.length<30)(h:(b.endLine==pos.line)=true)
  (hE:WE c d env Γ o m st KO) (U:Nat->Nat->List V->St->Prop)
  (a3:∀v st,KO v st->match v with
   | .ref a=>match st[a]? with
    |some (.inst k fs)=>match fs.lookup f,fj k f with
     |none,some g=>g<D5.length/\WL c d env Γ args m st (U a g)/\∀vs st,U a g vs st->C g (.ref a::vs) st K
     |_,_=>False
    |_=>False
   |_=>False):WE c d env Γ (.Call (.Attribute o x b) args [] pos) m st K:=by
 intro A ρ s Q E y ho hf hQ;subst hx;rw [arm_eval_Call,ou hb];refine wpAny_bind (hE A ρ s _ E y ho hf ?_);intro v G L t J w k1 p1 z M;have:=a3 _ _ k1;cases v<;>try exact this.elim
 rename_i a;dsimp only at this
 cases q:G[a]? with
 |none=>rw [q]at this;exact this.elim
 |some ob=>
  rw [q]at this;cases ob<;>try exact this.elim
  rename_i k fs;dsimp only at this
  cases el:fs.lookup f with
  |some v=>rw [el]at this;exact this.elim
  |none=>
   rw [el]at this
   cases em:fj k f with
   |none=>rw [em]at this;exact this.elim
   |some g=>
    rw [em]at this;refine fD this λhg hL a8=> ?_;refine aY (z.inst (s:={s with heap:=t,toks:=J}) q M) λp es n hp a2 hk gg a1 Y r=> ?_;subst a2;have CI:=tQ.of (T.cls k hk.2.1);have F:=T.fld k hk.2.1 f j;dsimp only [qB]at F;rw [em]at F;have hne:(g==999)=false:=by
     have:D5.length=60:=by rfl
     simp;exact zl (zt (zt hg (ze this)) (zr 939))
    simp only [hne]at F;simp only [Bool.false_or,cM,beq_iff_eq]at F;have I:InstAt t p.1 (AE (ca k) p.2) (ca k) (some (dictOf es n)):=⟨gg,rfl,rfl,a1⟩;have hsh:shadowIn (some (dictOf es n)) (sn f)=some false:=by
     show(lookIn (sn f) (dictOf es n)).map (·.isSome)=some false;rw [BX Y.1];have:=r f j;rw [el]at this;rw [this];rfl
    refine wpAny_bind (wpAny_standAt ?_);dsimp only [methodCall];have e:methodCallForm (args.length+([]:List Keyword).length) (backTo pos (starEach args env)) (backToKw pos (keywordEach [] env))=true:=tU D hl;rw [e];refine wpAny_bind (wpAny_holding ?_);show wpAny _ _ (getMethod _ _ _) _ _ _;refine method_fn (T.X.keeps z.keep) I CI.ga CI.gt F.1 F.2 hsh ?_;have u:methodCallPos true o env b pos=pure pos:=by unfold methodCallPos;simp [h]
    refine wpAny_bind (wpAny_of_eq u ?_);refine callWith_of (keywords:=[]) (by simp [eK D]) (keeps_K (T.keep g hg)) (i0 D (hL A L {s with heap:=t,toks:=J} pos _ E y z (hf.post p1) ?_));intro vs H a5 h2 c7 ws k2 l o2 v2 _;refine⟨T.X.keeps o2.keep,wpAny_call ?_⟩;exact hC g (.ref a::vs) H K A a5 _ (.ref p.1::ws) _ (a8 _ _ k2) y.Ls o2 (.cons (M.mono l.pre l.tup) v2) λv b1 a4 h' N w kk pp oo vv=>hQ v b1 a4 h' N w kk ((p1.trans l).trans pp) oo vv
def xD{o:Expr}{x:Str}{id:String}{f pos:Pos}{args:List Expr}{K KO:KV}(hb:cZ o=true)(u:args.all d8=true)(hl:args.length<30)(k:(f.endLine==pos.line)=true)
  (q:Slot "list" x id) (J:typeOf (.builtin id)=pure (.type "method_descriptor")) (hE:WE c d env Γ o m st KO) (L:Nat->List V->St->Prop)
  (N:∀v st,KO v st->∃a xs,v= .ref a/\st[a]? =some (.list xs)/\WL c d env Γ args m st (L a))
  (h:∀(a:Nat) (vs:List V) (st:St) (A:Around) (ρ:dM) (s:Shared) (w:Value) (j:List Value) (Q:Value->Shared->Prop) (E:Value->Shared->Prop),L a vs st->lA d A->Own c ρ st s.heap->VR ρ s.heap (.ref a) w->cH ρ s.heap vs j->Kn c ρ s K Q->
   wpAny (model pw c.w) A (call (.builtin id) (w::j)) Q E s):WE c d env Γ (.Call (.Attribute o x f) args [] pos) m st K:=by
 intro A ρ s Q E t ho hf hQ;refine wpAny_Call_method (ou hb) (tU u hl) k PySem.F.plainAttrs_list q J (hE A ρ s _ E t ho hf ?_);intro v b9 ρ1 h1 D w k1 p1 o1 G;refine aS (N _ _ k1) λa xs z ea hL=> ?_;subst z;refine aY (o1.list (s:={s with heap:=h1,toks:=D}) ea G) λp vs n hp zz H g r sz c0=> ?_;subst H;refine⟨⟨_,g,rfl⟩,λb e=>(by cases e;exact⟨_,g,rfl⟩),?_⟩;refine callWith_builtin (eK u) (i0 u (hL A ρ1 {s with heap:=h1,toks:=D} pos _ E t o1 (hf.post p1) ?_));intro M st2 Y h2 a0 j k2 l o2 v2 _;exact h a M st2 A Y {s with heap:=h2,toks:=a0} (.ref p.1) j Q E k2 t o2 (G.mono l.pre l.tup) v2 λv a6 U h' I w kk pp oo vv=>hQ v a6 U h' I w kk ((p1.trans l).trans pp) oo vv
def xE{x:Str}{id:String}{y pos:Pos}{args:List Expr}{K:KV}{p:List V->St->Prop}(T:fT c)(hg:c.mg x=none/\c.mb x=some (.builtin id))(D:Γ.nm.lookup x=some .globalImplicit)(u:(x==("__debug__":Str))=false)(q:args.all d8=true)
  (J:WL c d env Γ args m st p)
  (b:∀(vs:List V) (st:St) (A:Around) (ρ:dM) (s:Shared) (a:List Value) (Q:Value->Shared->Prop) (E:Value->Shared->Prop),p vs st->lA d A->Own c ρ st s.heap->cH ρ s.heap vs a->Kn c ρ s K Q->wpAny (model pw c.w) A (call (.builtin id) a) Q E s):
  WE c d env Γ (.Call (.Name x y) args [] pos) m st K:=by
 intro A ρ s Q E j l k z;refine wpAny_Call_NameR (jq T l k D u hg ?_);refine callWith_builtin (eK q) (i0 q (J A ρ s pos _ E j l k ?_));intro vs g h H tk a k1 M L I l1;exact b vs g A h {s with heap:=H,toks:=tk} a Q E k1 j L I λv o f h' n w G U oo N=>z v o f h' n w G (M.trans U) oo N
def JL{x:Str}{id:String}{y pos:Pos}{args:List Expr}{K:KV}{p:List V->St->Prop}(T:fT c)(hg:c.mg x=none/\c.mb x=some (.type id))(D:Γ.nm.lookup x=some .globalImplicit)(u:(x==("__debug__":Str))=false)(q:args.all d8=true)
  (J:WL c d env Γ args m st p)
  (b:∀(vs:List V) (st:St) (A:Around) (ρ:dM) (s:Shared) (a:List Value) (Q:Value->Shared->Prop) (E:Value->Shared->Prop),p vs st->lA d A->Own c ρ st s.heap->cH ρ s.heap vs a->Kn c ρ s K Q->wpAny (model pw c.w) A (call (.type id) a) Q E s):
  WE c d env Γ (.Call (.Name x y) args [] pos) m st K:=by
 intro A ρ s Q E j l k z;refine wpAny_Call_NameR (jq T l k D u hg ?_);refine PySem.callWith_type (eK q) (i0 q (J A ρ s pos _ E j l k ?_));intro vs g h H tk a k1 M L I l1;exact b vs g A h {s with heap:=H,toks:=tk} a Q E k1 j L I λv o f h' n w G U oo N=>z v o f h' n w G (M.trans U) oo N
def AH{K:List V->St->Prop}(h:K [] st):WL c d env Γ [] m st K:=λa a s a a a a b a e=>
 wpAny_pure (e _ _ _ _ s.toks _ h Post.refl b .nil rfl)
def xF{e:Expr}{r:List Expr}{K:List V->St->Prop}{KE:KV}(z:d8 e=true)(u:WE c d env Γ e m st KE)(q:∀v st,KE v st->WL c d env Γ r m st λvs st=>K (v::vs) st):WL c d env Γ (e::r) m st K:=by
 intro A ρ s pos Q E h x j l;refine wpAny_items_cons (u A ρ s _ E h x j ?_) (mX z r env);intro v b g o n w k1 k t p;refine q v b k1 A g {s with heap:=o,toks:=n} pos _ E h t (j.post k) ?_;intro vs st2 D H f I k2 a o2 y l2;exact l _ _ _ _ f _ k2 (k.trans a) o2 (.cons (p.mono a.pre a.tup) y) (by simp [l2])
def Nr{a:List Expr}{pos:Pos}{K:KV}{b:List V->St->Prop}(p:WL c d env Γ a m st b)(h:∀vs st,b vs st->vs.length<=big/\K (.ref st.length) (st++ [.list vs])):WE c d env Γ (.List a pos) m st K:=by
 intro A ρ s Q E t k g l;refine wpAny_List (p A ρ s pos _ E t k g ?_);intro vs u v y o z k1 j f e l1;have h:=h _ _ k1;refine cR (pO (n:=0) f e h.1) λo' q=> ?_;exact⟨by rw [e.length,sizeLine_eq];have:=h.1;simp only [big]at this;exact zt this (zr 15777216),l _ _ _ _ o _ h.2 (j.trans q) o' (eT f.len)⟩
def JM{a:List Expr}{n:Nat}{pos:Pos}{K:KV}{e:List V->St->Prop}(q:WL c d env Γ a m st e)(o:a.length<1000)(h:∀vs st,e vs st->K (.tup vs) st):WE c d env Γ (.Tuple a n pos) m st K:=by
 intro A ρ s Q E u k g l;refine wpAny_Tuple (q A ρ s pos _ E u k g ?_);intro vs w x h1 p f k1 j v t l1;have h:=h _ _ k1;refine cR (v.push (gZ f.toArray 0)) λo' b=> ?_;refine⟨by rw [l1,sizeLine_eq];exact zt (zs o) (zr 16776216),l _ _ _ _ p _ h (j.trans b) o' ?_⟩;exact .tup _ _ f.toArray 0 (Heap.get?_push_size _ rfl) (t.mono b.pre b.tup)
def Qk{t b o:Expr}{pos:Pos}{K:KV}{KT:Bool->St->Prop}(H:∀(A:Around) (ρ:dM) (s:Shared) (Q:Bool->Shared->Prop) (E:Value->Shared->Prop),lA d A->Own c ρ st s.heap->bk c env Γ ρ m s.heap->
   (∀b e a h' g,KT b e->Post ρ a s.heap h'->Own c a e h'->Q b {s with heap:=h',toks:=g})->wpAny (model pw c.w) A (isTrue t env (eval t env)) Q E s)
  (hb:∀st,KT true st->WE c d env Γ b m st K) (ho':∀st,KT false st->WE c d env Γ o m st K):WE c d env Γ (.IfExp t b o pos) m st K:=by
 intro A ρ s Q E n I p y;refine wpAny_IfExp (H A ρ s _ E n I p ?_);intro G j k z g k1 h o1;cases G
 .exact ho' j k1 A k {s with heap:=z,toks:=g} Q E n o1 (p.post h) λv e a h' f w l u oo q=>y v e a h' f w l (h.trans u) oo q
 .exact hb j k1 A k {s with heap:=z,toks:=g} Q E n o1 (p.post h) λv e a h' f w l u oo q=>y v e a h' f w l (h.trans u) oo q
end
abbrev KT(c:Cfg)(ρ:dM)(s:Shared)(KB:Bool->St->Prop)(Q:Bool->Shared->Prop):Prop:=
 ∀b e a h' f,KB b e->Post ρ a s.heap h'->Own c a e h'->Q b {s with heap:=h',toks:=f}
def WT(c:Cfg)(d:Nat)(env:Env)(Γ:Ctx)(r:Expr)(m:Loc)(st:St)(KB:Bool->St->Prop):Prop:=
 ∀(A:Around) (ρ:dM) (s:Shared) (Q:Bool->Shared->Prop) (E:Value->Shared->Prop),lA d A->Own c ρ st s.heap->bk c env Γ ρ m s.heap->KT c ρ s KB Q->wpAny (model pw c.w) A (isTrue r env (eval r env)) Q E s
def Nt(c:Cfg)(d:Nat)(env:Env)(Γ:Ctx)(op:BoolOp)(rs:List Expr)(m:Loc)(st:St)(K:KV):Prop:=
 ∀(A:Around) (ρ:dM) (s:Shared) (pos:Pos) (Q:Value->Shared->Prop) (E:Value->Shared->Prop),lA d A->Own c ρ st s.heap->bk c env Γ ρ m s.heap->Kn c ρ s K Q->wpAny (model pw c.w) A (boolOp pos op (evalEach rs env)) Q E s
def Lv(c:Cfg)(d:Nat)(env:Env)(Γ:Ctx)(op:BoolOp)(rs:List Expr)(m:Loc)(st:St)(KB:Bool->St->Prop):Prop:=
 ∀(A:Around) (ρ:dM) (s:Shared) (Q:Bool->Shared->Prop) (E:Value->Shared->Prop),lA d A->Own c ρ st s.heap->bk c env Γ ρ m s.heap->KT c ρ s KB Q->wpAny (model pw c.w) A (allTrue op rs env) Q E s
noncomputable def qC:Expr->Bool
 | .UnaryOp .Not _ _=>false
 | .BoolOp .. =>false
 | .IfExp .. =>false
 | .Compare .. =>false
 |_=>true
set_option tactic.hygienic true in
def isTrue_plain{r:Expr}(h:qC r=true)(env:Env)(whole:Sem Value):isTrue r env whole=(do let v <-whole;standAt r.pos;holding [v] (truthy v)):=by
 cases r<;>first |rfl |(cases h;done) |skip
 rename_i op x pos;cases op<;>first |rfl |cases h
section
variable{c:Cfg}{d:Nat}{env:Env}{Γ:Ctx}{m:Loc}{st:St}{C:aR}
def Gx{r:Expr}{KB:Bool->St->Prop}(g:qC r=true)(h:WE c d env Γ r m st (tr KB)):WT c d env Γ r m st KB:=by
 intro A ρ s Q E u l j n;refine wpAny_isTrue_value (h A ρ s _ E u l j ?_) (isTrue_plain g env _);intro v f e h' z w k p o q;exact jU o q k λb a t=>n b f e h' a t p o
def Ql{x:Expr}{pos:Pos}{K:KV}(h:WE c d env Γ x m st (tr λb st=>K (.bool (!b)) st)):WE c d env Γ (.UnaryOp .Not x pos) m st K:=by
 intro A ρ s Q E t j g l;refine wpAny_UnaryOp (h A ρ s _ E t j g ?_);intro v f e h' z w k p o n;exact not_value (jU o n k λb a q=>l _ f e h' a _ q p o (.bool _))
def Nu{x:Expr}{pos:Pos}{KB:Bool->St->Prop}(h:WT c d env Γ x m st λb st=>KB (!b) st):WT c d env Γ (.UnaryOp .Not x pos) m st KB:=by
 intro A ρ s Q E n g f j;exact wpAny_isTrue_Not (h A ρ s _ E n g f λb e a h' k l p o=>j _ e a h' k l p o)
abbrev Lw(c:Cfg)(d:Nat)(t:Value->Value->Sem Value)(g:V->V->St->Prop)(K:KV):Prop:=
 ∀(A:Around) (ρ:dM) (s:Shared) (Q:Value->Shared->Prop) (E:Value->Shared->Prop) (st:St) (a b:V) (f e:Value),lA d A->Own c ρ st s.heap->VR ρ s.heap a f->VR ρ s.heap b e->g a b st->Kn c ρ s K Q->wpAny (model pw c.w) A (t f e) Q E s
def BZ{t:Value->Value->Sem Value}{l r:Expr}{K D:KV}{z:V->V->St->Prop}(h1:WE c d env Γ l m st D)(L:∀a st,D a st->WE c d env Γ r m st (z a))(x:Lw c d t z K)
  {A:Around} {ρ:dM} {s:Shared} {Q:Value->Shared->Prop} {E:Value->Shared->Prop} (g:lA d A) (ho:Own c ρ st s.heap) (G:bk c env Γ ρ m s.heap) (M:Kn c ρ s K Q):
  wpAny (model pw c.w) A (eval l env) (λa j=>wpAny (model pw c.w) A (eval r env) (λb h=>wpAny (model pw c.w) A (t a b) Q E h) E j) E s:=by
 refine h1 A ρ s _ E g ho G ?_;intro a q ρ1 n p wa k1 H o1 v1;refine L a q k1 A ρ1 {s with heap:=n,toks:=p} _ E g o1 (G.post H) ?_;intro b y u J tk2 Y k2 f o2 v2;exact x A u {s with heap:=J,toks:=tk2} _ E y a b wa Y g o2 (v1.mono f.pre f.tup) v2 k2 λv I o h' N w U pp oo vv=>M v I o h' N w U ((H.trans f).trans pp) oo vv
def qD{l r:Expr}{op:CmpOp}{pos:Pos}{K e:KV}{g:V->V->St->Prop}(j:behindInMarks op r=false)(o:WE c d env Γ l m st e)(n:∀a st,e a st->WE c d env Γ r m st (g a))(f:Lw c d (compareOp op) g K):
 WE c d env Γ (.Compare l [op] [r] pos) m st K:=λb b b b b q k h p=>wpAny_Compare1 (BZ o n f q k h p) j
def oz{l r:Expr}{op:CmpOp}{pos:Pos}{KB:Bool->St->Prop}{n:KV}{j:V->V->St->Prop}(x:behindInMarks op r=false)(z:WE c d env Γ l m st n)(u:∀a st,n a st->WE c d env Γ r m st (j a))(h:Lw c d (compareOp op) j (tr KB)):
 WT c d env Γ (.Compare l [op] [r] pos) m st KB:=λA ρ s Q E D t q w=>wpAny_isTrue_Compare1 (BZ z u h D t q λv g f h' G zz k p o y=>
  jU o y k λb e kb=>w b g f h' e kb p o) x
def JN{l r:Expr}{op:Operator}{pos:Pos}{K e:KV}{g:V->V->St->Prop}(n:WE c d env Γ l m st e)(k:∀a st,e a st->WE c d env Γ r m st (g a))(f:Lw c d (binaryOp op) g K):
 WE c d env Γ (.BinOp l op r pos) m st K:=λb b b b b p j h o=>wpAny_BinOp (BZ n k f p j h o)
def B_{op:BoolOp}{e:Expr}{K:KV}(h:WE c d env Γ e m st K):Nt c d env Γ op [e] m st K:=λA ρ s j Q E g b a f=>h A ρ s Q E g b a f
def yY{op:BoolOp}{e j:Expr}{r:List Expr}{K z:KV}(h:WE c d env Γ e m st z)
  (f:∀v st,z v st->∃b,bY st v=some b/\(if b=(op== .And)then Nt c d env Γ op (j::r) m st K else K v st)):Nt c d env Γ op (e::j::r) m st K:=by
 intro A ρ s pos Q E hA L G y;show wpAny _ A (do
  let v <-eval e env
  standAt pos
  let t <-holding [v] (truthy v)
  match op,t with
  | .And,false | .Or,true=>pure v
  |_,_=>boolOp pos op (evalEach (j::r) env)) Q E s
 refine wpAny_bind (h A ρ s _ E hA L G ?_);intro v g ρ1 n U w k1 p o D;refine aB (f v g k1) λb hb f=> ?_;refine wpAny_bind (wpAny_standAt (wpAny_bind (wpAny_holding (jU (KB:=λl k=>l=b/\k=g) o D (by unfold tr;rw [hb];exact⟨rfl,rfl⟩) ?_))))
 rintro l a ⟨rfl,_⟩
 have I:∀(q:Nt c d env Γ op (j::r) m g K),wpAny (model pw c.w) A (boolOp pos op (evalEach (j::r) env)) Q E {s with heap:=n,toks:=a}:=λq=>
  q A ρ1 {s with heap:=n,toks:=a} pos Q E hA o (G.post p) λv k x h' a w J N oo M=>y v k x h' a w J (p.trans N) oo M
 have stop:K v g->wpAny (model pw c.w) A (pure w) Q E {s with heap:=n,toks:=a}:=λq=>wpAny_pure (y _ _ _ _ a _ q p o D);cases op<;>cases l<;>simp at f
 .exact stop f
 .exact I f
 .exact I f
 .exact stop f
def yZ{op:BoolOp}{rs:List Expr}{pos:Pos}{K:KV}(h:Nt c d env Γ op rs m st K):WE c d env Γ (.BoolOp op rs pos) m st K:=λA ρ s Q E f b a e=>by
 exact h A ρ s pos Q E f b a e
def xG{op:BoolOp}{KB:Bool->St->Prop}(h:KB (op== .And) st):Lv c d env Γ op [] m st KB:=λA ρ s Q E f a e b=>by
 exact wpAny_pure (b _ _ _ _ s.toks h Post.refl a)
def pP{op:BoolOp}{e:Expr}{r:List Expr}{KB KE:Bool->St->Prop}(h:WT c d env Γ e m st KE)
  (a:∀b st,KE b st->if b=(op== .And)then Lv c d env Γ op r m st KB else KB b st):Lv c d env Γ op (e::r) m st KB:=by
 intro A ρ s Q E p ho u n;refine wpAny_bind (h A ρ s _ E p ho u ?_);intro b f o j g k1 k t;have a:=a b f k1;have y:∀(q:Lv c d env Γ op r m f KB),wpAny (model pw c.w) A (allTrue op r env) Q E {s with heap:=j,toks:=g}:=λq=>
  q A o {s with heap:=j,toks:=g} Q E p t (u.post k) λv x l h' w D G oo=>n v x l h' w D (k.trans G) oo
 have stop:KB b f->wpAny (model pw c.w) A (pure b) Q E {s with heap:=j,toks:=g}:=λq=>wpAny_pure (n _ _ _ _ g q k t);cases op<;>cases b<;>simp at a
 .exact stop a
 .exact y a
 .exact y a
 .exact stop a
def vh{op:BoolOp}{rs:List Expr}{pos:Pos}{KB:Bool->St->Prop}(h:Lv c d env Γ op rs m st KB):WT c d env Γ (.BoolOp op rs pos) m st KB:=λA ρ s Q E f b a e=>
 wpAny_isTrue_BoolOp (h A ρ s Q E f b a e)
def Nv{t b o:Expr}{pos:Pos}{KB KC:Bool->St->Prop}(D:WT c d env Γ t m st KC)(hb:∀st,KC true st->WT c d env Γ b m st KB)(y:∀st,KC false st->WT c d env Γ o m st KB):WT c d env Γ (.IfExp t b o pos) m st KB:=by
 intro A ρ s Q E l ho n q;refine wpAny_bind (D A ρ s _ E l ho n ?_);intro b' h j w u k1 g x;cases b'
 .exact y h k1 A j {s with heap:=w,toks:=u} Q E l x (n.post g) λv f a h' e k p oo=>q v f a h' e k (g.trans p) oo
 .exact hb h k1 A j {s with heap:=w,toks:=u} Q E l x (n.post g) λv f a h' e k p oo=>q v f a h' e k (g.trans p) oo
def Qm{rs:List Expr}:∀{st:St} {KB:Bool->St->Prop},Lv c d env Γ .And rs m st KB->True:=λa=>trivial
def Qn{n:Nat}{k:Nat}{p pos:Pos}{K:KV}(h:K (.int (-(n:Int))) st):WE c d env Γ (.UnaryOp .USub (.Constant (.int n) k p) pos) m st K:=by
 intro A ρ s Q E f a e b;refine wpAny_UnaryOp (wpAny_Constant_int ?_);exact neg_int (b _ _ _ _ _ _ h Post.refl a (.int _ _))
def Qo{o i:Expr}{pos:Pos}{K e:KV}{g:V->V->St->Prop}(l:WE c d env Γ o m st e)(k:∀a st,e a st->WE c d env Γ i m st (g a))(f:Lw c d (subscriptTail o i) g K):WE c d env Γ (.Subscript o i pos) m st K:=
 λb b b b b p j h n=>Subscript_ (BZ l k f p j h n)
end
section
variable{c:Cfg}{d:Nat}{env:Env}{Γ:Ctx}{m:Loc}{st:St}{C:aR}
def Own.adopt{ρ:dM}{h:Heap}(x:Own c ρ st h){o:O}{a:Addr}(M: ¬d7 ρ a)(hb:c.b0.get? a=none)(L:OR c (ρ++ [(a,a)]) h o (a,a)):
  Own c (ρ++ [(a,a)]) (st++ [o]) h/\bO (λb=>b=a) ρ (ρ++ [(a,a)]) h h:=by
 have J:ρ <+: ρ++ [(a,a)]:=eE _ _;have f:∀(j:Nat) (q:Addr×Addr),(ρ++ [(a,a)])[j]? =some q->(j<ρ.length/\ρ[j]? =some q)\/(j=ρ.length/\q=(a,a)):=λj q e=>by
  refine a_ (oO j ρ.length) (λz=> ?_) λz=> ?_
  .rw [uw z]at e;exact .inl ⟨z,e⟩
  .rw [Af z]at e;refine a_ (Nat.eq_or_lt_of_le z) (λw=> ?_) λw=> ?_
   .rw [<-w,rX]at e;cases e;exact .inr ⟨w.symm,rfl⟩
   .rw [zT (by simp;exact Nat.le_sub_of_add_le (Nat.add_comm 1 _▸w))]at e;cases e
 have fr:∀q ∈ ρ,a≠q.1/\a≠q.2:=λq m=>⟨λz=>M ⟨q,m,.inl z⟩,λz=>M ⟨q,m,.inr z⟩⟩;refine⟨⟨by simp [x.len],?_,?_,?_,x.keep⟩,⟨J,λb ob g N N=>g,?_,bw.refl h⟩⟩
 .intro j I y k H;refine a_ (f j y H) (λn=> ?_) λt=> ?_
  any_goals obtain ⟨A,v⟩:=n
  any_goals obtain ⟨rfl,rfl⟩:=t
  .rw [uw (x.len▸A)]at k;exact(x.rep j I y k v).mono J (bw.refl h) rfl rfl
  .rw [x.len,Af (bP _),rX]at k;cases k;exact L
 .intro i j p q Q qb E;rcases f i p Q with⟨hi,G⟩ |⟨rfl,rfl⟩<;>rcases f j q qb with⟨A,D⟩ |⟨rfl,rfl⟩
  .exact x.Nm i j p q G D E
  .refine cR (fr p (nR G)) λu l=> ?_;exact⟨u.symm,u.symm,l.symm,l.symm⟩
  .refine cR (fr q (nR D)) λu l=> ?_;exact⟨u,l,u,l⟩
  .exact absurd rfl E
 .intro j I y k H U;refine a_ (f j y H) (λn=> ?_) λt=> ?_
  any_goals obtain ⟨A,v⟩:=n
  any_goals obtain ⟨rfl,rfl⟩:=t
  .rw [uw (x.len▸A)]at k;exact x.base j I y k v U
  .exact⟨hb,hb⟩
 .rintro b ⟨q,m,e⟩
  refine a_ (List.mem_append.mp m) (λm=> ?_) λm=> ?_
  .exact .inl ⟨q,m,e⟩
  .rw [List.mem_singleton.mp m]at e;rcases e with rfl |rfl<;>exact .inr (.inr rfl)
set_option tactic.hygienic true in
def Qp{o a:Expr}{p pos:Pos}{K z:KV}{q:V->V->St->Prop}(U:WE c d env Γ o m st z)(J:∀x st,z x st->WE c d env Γ a m st (q x))
  (h:∀x y st,q x y st->match x,y with
   | .ref x,.int k=>match st[x]? with
    |some (.list xs)=>(0<=k/\k<2^62)/\K (.ref st.length) (st++ [.list (xs.drop k.toNat)])
    |_=>False
   |_,_=>False):WE c d env Γ (.Subscript o (.Slice (some a) none none p) pos) m st K:=by
 intro A ρ s Q E D ho hf L;refine Subscript_ (U A ρ s _ E D ho hf ?_);intro x n ρ1 g l wx k1 G o1 Y;refine wpAny_Slice ?_;refine J x n k1 A ρ1 {s with heap:=g,toks:=l} _ E D o1 (hf.post G) ?_;intro y b a6 I u wy k2 e o2 v2;refine wpAny_pure (wpAny_pure ?_);have:=h x y b k2;cases x<;>try exact this.elim
 rename_i x;cases y<;>try exact this.elim
 rename_i k;dsimp only at this
 cases ex:b[x]? with
 |none=>rw [ex]at this;exact this.elim
 |some ob=>
  rw [ex]at this;cases ob<;>try exact this.elim
  rename_i xs;cases v2;rename_i t;refine cR (o2.push {cls:= .type "slice",data:= .fields #[.int k t,.none,.none]}) λo' f=> ?_;exact rC (s:={s with heap:=I.push {cls:= .type "slice",data:= .fields #[.int k t,.none,.none]},toks:=u}) o' (Y.mono (e.trans f).pre (e.trans f).tup) ex this.1 this.2
   (λv H j h' M w N pp oo vv=>L v H j h' M w N (((G.trans e).trans f).trans pp) oo vv) (Heap.IsSliceOf.new ..)
set_option tactic.hygienic true in
def Qq{o a:Expr}{p pos:Pos}{K L:KV}{J:V->V->St->Prop}(h1:WE c d env Γ o m st L)(h2:∀x st,L x st->WE c d env Γ a m st (J x))
  (h:∀x y st,J x y st->match x,y with
   | .ref x,.int k=>match st[x]? with
    |some (.list xs)=>(0<=k/\k<2^62)/\K (.ref st.length) (st++ [.list (xs.take k.toNat)])
    |some (.iw xs)=>(0<=k/\k<2^62)/\K (.ref st.length) (st++ [.list (xs.take k.toNat)])
    |_=>False
   |_,_=>False):WE c d env Γ (.Subscript o (.Slice none (some a) none p) pos) m st K:=by
 intro A ρ s Q E U ho Y I;refine Subscript_ (h1 A ρ s _ E U ho Y ?_);intro x H M ha1 G wx k1 z o1 N;refine wpAny_Slice ?_;refine wpAny_pure ?_;refine h2 x H k1 A M {s with heap:=ha1,toks:=G} _ E U o1 (Y.post z) ?_;intro y j a6 n l wy k2 b o2 v2;refine wpAny_pure ?_;have:=h x y j k2;cases x<;>try exact this.elim
 rename_i x;cases y<;>try exact this.elim
 rename_i k;dsimp only at this
 cases ex:j[x]? with
 |none=>rw [ex]at this;exact this.elim
 |some ob=>
  rw [ex]at this;cases v2;rename_i t;refine cR (o2.push {cls:= .type "slice",data:= .fields #[.none,.int k t,.none]}) λo' e=> ?_;cases ob<;>try exact this.elim
  .exact nH (s:={s with heap:=n.push {cls:= .type "slice",data:= .fields #[.none,.int k t,.none]},toks:=l}) o' (N.mono (b.trans e).pre (b.trans e).tup) (.inl ex) this.1 this.2
    (λv g f h' q w u D oo vv=>I v g f h' q w u (((z.trans b).trans e).trans D) oo vv) (Heap.IsSliceOf.new ..)
  .exact nH (s:={s with heap:=n.push {cls:= .type "slice",data:= .fields #[.none,.int k t,.none]},toks:=l}) o' (N.mono (b.trans e).pre (b.trans e).tup) (.inr ex) this.1 this.2
    (λv g f h' q w u D oo vv=>I v g f h' q w u (((z.trans b).trans e).trans D) oo vv) (Heap.IsSliceOf.new ..)
set_option tactic.hygienic true in
def Qs{o a b:Expr}{p pos:Pos}{K J:KV}{I:V->V->St->Prop}{M:V->V->V->St->Prop}(h1:WE c d env Γ o m st J)(h2:∀x st,J x st->WE c d env Γ a m st (I x))(h3:∀x y st,I x y st->WE c d env Γ b m st (M x y))
  (h:∀x y z st,M x y z st->match x,y,z with
   | .ref x,.int j,.int k=>match st[x]? with
    |some (.list xs)=>(0<=j/\j<=k/\k<=xs.length)/\K (.ref st.length) (st++ [.list ((xs.take k.toNat).drop j.toNat)])
    |_=>False
   |_,_,_=>False):WE c d env Γ (.Subscript o (.Slice (some a) (some b) none p) pos) m st K:=by
 intro A ρ s Q E l ho n hQ;refine Subscript_ (h1 A ρ s _ E l ho n ?_);intro x G L D tk1 wx k1 q o1 v1;refine wpAny_Slice ?_;refine h2 x G k1 A L {s with heap:=D,toks:=tk1} _ E l o1 (n.post q) ?_;intro y H a0 a3 a1 wy k2 e o2 v2;refine h3 x y H k2 A a0 {s with heap:=a3,toks:=a1} _ E l o2 ((n.post q).post e) ?_;intro z f c0 U N wz k3 g o3 v3;refine wpAny_pure ?_;have:=h x y z f k3;cases x<;>try exact this.elim
 rename_i x;cases y<;>try exact this.elim
 rename_i j;cases z<;>try exact this.elim
 rename_i k;dsimp only at this
 cases ex:f[x]? with
 |none=>rw [ex]at this;exact this.elim
 |some ob=>
  rw [ex]at this;cases ob<;>try exact this.elim
  rename_i xs;cases v3;cases v2;rename_i t u;refine cR (o3.push {cls:= .type "slice",data:= .fields #[.int j u,.int k t,.none]}) λo' p'=> ?_;exact rD (s:={s with heap:=U.push {cls:= .type "slice",data:= .fields #[.int j u,.int k t,.none]},toks:=N}) o' (v1.mono ((e.trans g).trans p').pre ((e.trans g).trans p').tup) ex this.1 this.2
   (λv a2 Y h' tk w kk pp oo vv=>hQ v a2 Y h' tk w kk ((((q.trans e).trans g).trans p').trans pp) oo vv) (Heap.IsSliceOf.new ..)
def JO{pos:Pos}{K:KV}(h:K (.ref st.length) (st++ [.dict []])):WE c d env Γ (.Dict [] [] pos) m st K:=by
 intro A ρ s Q E n b k f;refine wpAny_Dict_empty ?_;obtain ⟨o',j⟩:=b.new (p:=(s.heap.objs.size,s.heap.objs.size)) (o:= .dict []) (λa ob e=>Heap.d9 e) (Heap.fresh _) (Heap.fresh _)
  ⟨rfl,⟨(gP _),λl g=>absurd g (tK)⟩,[],Heap.DictOf.new s.heap,rfl,.nil⟩
 exact f _ _ _ _ s.toks _ h j o' (eT b.len)
def WP(c:Cfg)(d:Nat)(env:Env)(Γ:Ctx)(f:List (Option Expr))(aZ:List Expr)(g:List Nat)(m:Loc)(st:St)(h:List V->St->Prop):Prop:=
 ∀(A:Around) (ρ:dM) (s:Shared) (pos:Pos) (Q:List (Value×Value)->Shared->Prop) (E:Value->Shared->Prop),lA d A->Own c ρ st s.heap->bk c env Γ ρ m s.heap->
  (∀(vs:List V) (e:St) (a:dM) (h':Heap) (l:Nat) (b:List (Value×Value)),h vs e->Post ρ a s.heap h'->Own c a e h'->cH a h' vs (b.map (·.2))->(∀(j k:Nat),g[j]? =some k->∃(t:Tok) (w:Value),b[j]? =some (Value.str (sn k) t,w))->b.length=g.length->Q b {s with heap:=h',toks:=l})->
  wpAny (model pw c.w) A (evalPairs (pairTrees f aZ env pos)) Q E s
def Nx{b:List V->St->Prop}(h:b [] st):WP c d env Γ [] [] [] m st b:=λa a s a a a a e a f=>
 evalPairs_nil (f _ _ _ _ s.toks [] h Post.refl e .nil (by simp) rfl)
def Ca{k:Nat}{g:List Nat}{a:List (Option Expr)}{v:Expr}{aZ:List Expr}{t:List V->St->Prop}{kn:Nat}{kp:Pos}{l:KV}(J:WE c d env Γ v m st l)
  (H:∀x st,l x st->WP c d env Γ a aZ g m st λvs st=>t (x::vs) st):WP c d env Γ (some (.Constant (.str (sn k)) kn kp)::a) (v::aZ) (k::g) m st t:=by
 intro A ρ s pos Q E o L p u;refine evalPairs_cons (wpAny_Constant_str ?_);refine wpAny_bind (J A ρ {s with toks:=s.toks+1} _ E o L p ?_);intro x f n h1 z w k1 q I D;refine wpAny_bind (wpAny_standAt (wpAny_pure ?_));refine H x f k1 A n {s with heap:=h1,toks:=z} pos _ E o I (p.post q) ?_;intro vs a0 Y h2 h ws k2 b o2 N y M;refine u _ _ _ _ h ((.str (sn k) s.toks,w)::ws) k2 (q.trans b) o2 (.cons (D.mono b.pre b.tup) N) (λj G e=> ?_) (by simp [M])
 cases j with
 |zero=>simp at e;subst e;exact⟨_,_,rfl⟩
 |succ j=>simp at e;simpa using y j G e
def xH:∀(b a:List (Str×Value)),((a++b).map (·.1)).Nodup->merged a b=a++b:=by
 intro zl
 induction zl with
 |nil=>
  intro a _;simp [merged]
 |cons f b j=>
  intro a h;have e:stored a f.1 f.2=a++ [f]:=by
   dsimp only [stored];rw [if_neg];intro q;rw [CN]at q;refine aB q λx k g=> ?_;simp only [decide_eq_true_eq]at g;rw [List.map_append,nc]at h;exact h.2.2 x.1 (List.mem_map_of_mem k) f.1 (.head _) g
  have:=j (a++ [f]) (by simpa using h);simp only [merged,List.foldl_cons]at this ⊢;rw [e,this];exact(fW ..)
def cH.zip_map{ρ:dM}{h:Heap}{vs:List V}{a:List Value}(b:List Nat)(e:vs.length=b.length)(x:cH ρ h vs a):cH ρ h ((b.zip vs).map (·.2)) a:=by
 rw [List.map_snd_zip (ze e)];exact x
theorem tV:∀(a:List (Value×Value)) (b:List Nat),(∀(j k:Nat),b[j]? =some k->∃(t:Tok) (w:Value),a[j]? =some (Value.str (sn k) t,w))->a.length=b.length->Carries (sk c) a ((b.map sn).zip (a.map (·.2)))
 | [],[],_,_=>trivial
 | [],_::_,_,h=>trivial
 |_::_,[],_,h=>by simp at h
 |w::a,k::b,f,g=>by
  refine cO (f 0 k rfl) λt x e=> ?_;simp at e;subst e;exact⟨strKind_is pw c.w _ _,rfl,tV a b (λj n l=>by simpa using f (j+1) n (by simpa using l)) (by simpa using g)⟩
def lY:∀{l:List Str},nI l=true->l.Nodup:=by
 intro zl
 induction zl with
 |nil=>
  intro _;exact yU
 |cons a l e=>
  intro h;simp only [nI,cM,C6]at h;exact List.nodup_cons.mpr ⟨λb=>by rw [List.contains_eq_mem]at h;simp [b]at h,e h.2⟩
def Ny{a:List (Option Expr)}{aZ:List Expr}{f:List Nat}{pos:Pos}{K:KV}{KL:List V->St->Prop}(hP:WP c d env Γ a aZ f m st KL)(j:a.all (·.isSome)=true)(U:a.length=aZ.length)(a3:a.length=f.length)(h0:a≠ [])(u:f.length<=15)
  (Y:nI (f.map sn)=true) (N:∀k ∈ f,k<NS) (h:∀vs st,KL vs st->vs.length=f.length/\K (.ref st.length) (st++ [.dict (f.zip vs)])):WE c d env Γ (.Dict a aZ pos) m st K:=by
 intro A ρ s Q E hA M hf hQ;have hn:=pairTrees_length a aZ env pos j U;refine wpAny_Dict_pairs (knd:=sk c) (zip_pairTrees a aZ env pos j U) (λl=>h0 (List.length_eq_zero_iff.mp (by rw [<-hn,l];rfl))) (by rw [hn];exact zt (ze a3) u) ?_;refine cR (M.push emptyDict) λo0 p0=> ?_;have fr:=M.fresh;refine hP A ρ {s with heap:=s.heap.push emptyDict} pos _ E hA o0 (hf.post p0) ?_;intro vs G v H tk p k1 D L v1 hk g;refine cR (h vs G k1) λt hK=> ?_;have I:(s.heap.push emptyDict).get? s.heap.objs.size=some emptyDict:=Heap.get?_push_size _ rfl;have g1:=D.ext _ _ I fr.1 id;have nd:((f.map sn).zip (p.map (·.2))).map (·.1)=f.map sn:=List.map_fst_zip (by simp [g]);have hnd':(f.map sn).Nodup:=by
  exact lY Y
 refine⟨_,tV p f hk g,⟨_,#[],0,g1,⟨rfl,rfl,rfl⟩,rfl,λzz l=>by simp at l,Pairs.nil,yU⟩,λh' y hs=> ?_⟩;rw [xH _ _ (by simp [nd,hnd'])]at y;simp only [dw]at y;have tk1:bw H h':=λx us k e=>by
  rw [hs.2 x (λz=>by rw [z,g1]at e;exact absurd (congrArg Obj.cls (fE e)) (by simp))];exact e
 have w: ¬d7 v s.heap.objs.size:=λq=>by
  refine a_ (D.new _ q) (λz=> ?_) λJ=>a_ J (λz=> ?_) λz=> ?_
  .exact fr.1 z
  .rw [I]at z;cases z
  .exact z
 refine cR (L.but w fr.2 ⟨_,g1,λus n z=>absurd (congrArg Obj.cls z) (by simp)⟩ hs.extBut) λo2 p2=> ?_;obtain ⟨o3,p3⟩:=o2.adopt (o:= .dict (f.zip vs)) w fr.2 ⟨rfl,⟨by rw [List.length_zip];exact zt (Nat.min_le_left _ _) (zt u (zb rfl)),λe l=>N _ (List.of_mem_zip l).1⟩,_,y,by
   rw [nd];have:(f.zip vs).map (λe=>sn e.1)=((f.zip vs).map (·.1)).map sn:=by rw [gA];rfl
   rw [this,List.map_fst_zip (zf t)],by
   have e2:((f.map sn).zip (p.map (·.2))).map (·.2)=p.map (·.2):=List.map_snd_zip (by simp [g]);rw [e2];exact cH.zip_map f t (v1.mono (eE _ _) tk1)⟩
 refine hQ _ _ _ _ _ _ hK ?_ o3 (eT L.len);have a1:bO (λb=>b=s.heap.objs.size) ρ v s.heap H:=Post.uu (bO.trans p0 D);have a2:=(a1.trans p2).trans p3;exact a2.mono λb e=> .inr (by rw [e];exact Heap.fresh _)
end
def WI(c:Cfg)(d:Nat)(env:Env)(Γ:Ctx)(r:Expr)(m:Loc)(st:St)(k:It->St->Prop):Prop:=
 ∀(A:Around) (ρ:dM) (s:Shared) (K:Value->Shared->Prop) (E:Value->Shared->Prop),lA d A->Own c ρ st s.heap->bk c env Γ ρ m s.heap->
  (∀I e b h' j a,k I e->Post ρ b s.heap h'->Own c b e h'->pQ c (XF env) b h' a I.src I.bA->s.heap.get? a=none->K (.ref a) {s with heap:=h',toks:=j})->
  wpAny (model pw c.w) A (eval r env) (λh f=>wpAny (model pw c.w) A (pyIter h) K E f) E s
def WF(c:Cfg)(d:Nat)(env:Env)(Γ:Ctx)(rs:List Expr)(m:Loc)(st:St)(KB:Bool->St->Prop):Prop:=
 ∀(A:Around) (ρ:dM) (s:Shared) (Q:Bool->Shared->Prop) (E:Value->Shared->Prop),lA d A->Own c ρ st s.heap->bk c env Γ ρ m s.heap->KT c ρ s KB Q->
  wpAny (model pw c.w) A (forIn rs true λc r=>if r=true then do let ok <-isTrue c env (eval c env);pure (ForInStep.yield ok)else pure (ForInStep.yield r)) Q E s
section
variable{c:Cfg}{d:Nat}{env:Env}{Γ:Ctx}{m:Loc}{st:St}{C:aR}
def Gy{KB:Bool->St->Prop}(h:KB true st):WF c d env Γ [] m st KB:=λA ρ s Q E f a e b=>by
 rw [List.forIn_nil];exact wpAny_pure (b _ _ _ _ s.toks h Post.refl a)
def y9{M:Model}{A:Around}{Q:Bool->Shared->Prop}{E:Value->Shared->Prop}{s:Shared}:∀(rs:List Expr),Q false s->
  wpAny M A (forIn rs false λc r=>if r=true then do let ok <-isTrue c env (eval c env);pure (ForInStep.yield ok)else pure (ForInStep.yield r)) Q E s:=by
 intro zl
 induction zl with
 |nil=>
  intro h;rw [List.forIn_nil];exact wpAny_pure h
 |cons e rs a=>
  intro h;rw [List.forIn_cons,if_neg (by simp)];exact wpAny_bind (wpAny_pure (a h))
def Cb{e:Expr}{r:List Expr}{KB KE:Bool->St->Prop}(h:WT c d env Γ e m st KE)(a:∀b st,KE b st->if b=true then WF c d env Γ r m st KB else KB false st):WF c d env Γ (e::r) m st KB:=by
 intro A ρ s Q E o y q k;rw [List.forIn_cons,if_pos rfl];refine wpAny_bind (wpAny_bind (h A ρ s _ E o y q ?_));intro b j n x l k1 f p;have a:=a b j k1;refine wpAny_pure ?_;cases b
 .exact y9 r (k _ _ _ _ l a f p)
 .exact a A n {s with heap:=x,toks:=l} Q E o p (q.post f) λv u g h' t w z oo=>k v u g h' t w (f.trans z) oo
set_option tactic.hygienic true in
def Nz{r:Expr}{u:KV}{t:It->St->Prop}(h:WE c d env Γ r m st u)(hk:∀v st,u v st->match v with
  | .ref a=>match st[a]? with
   |some (.list xs)=>t ⟨xs,some (a,xs)⟩ st
   |_=>False
  | .tup l=>t ⟨l,none⟩ st
  |_=>False):WI c d env Γ r m st t:=by
 intro A ρ s K E D q n x;refine h A ρ s _ E D q n ?_;intro v e k I H w k1 f j y;have:=hk v e k1;cases v<;>try exact this.elim
 .rename_i a;dsimp only at this
  cases ea:e[a]? with
  |none=>rw [ea]at this;exact this.elim
  |some ob=>
   rw [ea]at this;cases ob<;>try exact this.elim
   rename_i xs;exact DB ea y j (n.post f) λh' g b p o i z=>x ⟨xs,some (a,xs)⟩ e k h' g b this (f.trans p) o i (gD f q j z)
 .rename_i l;exact Gz y j (n.post f) λh' g b p o i z=>x ⟨l,none⟩ e k h' g b this (f.trans p) o i (gD f q j z)
set_option tactic.hygienic true in
def NB{np pos:Pos}{r:Expr}{n:KV}{t:It->St->Prop}(T:fT c)(D:Γ.nm.lookup (Str.ofString "reversed")=some .globalImplicit)(y:d8 r=true)(h:WE c d env Γ r m st n)(l:∀v st,n v st->match v with
  | .ref a=>match st[a]? with
   |some (.list xs)=>t ⟨xs.reverse,some (a,xs)⟩ st
   |_=>False
  |_=>False):WI c d env Γ (.Call (.Name (Str.ofString "reversed") np) [r] [] pos) m st t:=by
 intro A ρ s K E H k g hK;refine wpAny_Call_NameR (jq T k g D (by decide) (T.gt "reversed" (by decide)) ?_);have f:[r].all d8=true:=by simp [y]
 refine PySem.callWith_type (eK f) (i0 f (wpAny_items_cons (h A ρ s _ E H k g ?_) (mX y [] env)));intro v e q L J w k1 j u G;refine wpAny_items_nil ?_;have:=l v e k1;cases v<;>try exact this.elim
 rename_i a;dsimp only at this
 cases ea:e[a]? with
 |none=>rw [ea]at this;exact this.elim
 |some ob=>
  rw [ea]at this;cases ob<;>try exact this.elim
  rename_i xs;exact GA ea G u (g.post j) λh' x b p o i z=>hK ⟨xs.reverse,some (a,xs)⟩ e q h' x b this (j.trans p) o i (gD j k u z)
def Qt{vs:List V}{A:Int->Prop}{B:Int->Int->Int->Prop}{P:Prop}(h:match vs with
  | [.int hi]=>A hi
  | [.int lo,.int hi,.int step]=>B lo hi step
  |_=>False) (k1:∀i,vs=[.int i]->A i->P) (k2:∀i j k,vs=[.int i,.int j,.int k]->B i j k->P):P:=by
 cases vs with
 |nil=>exact h.elim
 |cons v l=>
  cases v<;>first |exact h.elim |skip
  cases l with
  |nil=>exact k1 _ rfl h
  |cons w l=>
   cases w<;>first |exact h.elim |skip
   cases l with
   |nil=>exact h.elim
   |cons x l=>
    cases x<;>first |exact h.elim |skip
    cases l with
    |nil=>exact k2 _ _ _ rfl h
    |cons y l=>exact h.elim
def GB{np pos:Pos}{rs:List Expr}{x:List V->St->Prop}{t:It->St->Prop}(T:fT c)(D:Γ.nm.lookup (Str.ofString "range")=some .globalImplicit)(y:rs.all d8=true)(h:WL c d env Γ rs m st x)(u:∀vs st,x vs st->match vs with
  | [.int hi]=>(hi.natAbs<2^62)/\t ⟨eY 0 hi 1,none⟩ st
  | [.int lo,.int hi,.int step]=>(lo.natAbs<2^62/\hi.natAbs<2^62/\0<step/\step<2^62)/\t ⟨eY lo hi step,none⟩ st
  |_=>False):WI c d env Γ (.Call (.Name (Str.ofString "range") np) rs [] pos) m st t:=by
 intro A ρ s K E G n l v;refine wpAny_Call_NameR (jq T n l D (by decide) (T.gt "range" (.tail _ (.head _))) ?_);refine PySem.callWith_type (eK y) (i0 y (h A ρ s pos _ E G n l ?_));intro vs g q M L N k1 f k w H;clear H;refine Qt (u vs g k1) (λhi e this=> ?_) λlo hi step e this=> ?_
 .subst e;cases w with |cons a b=>
  cases b;cases a;exact y_ k (l.post f) this.1 λh' j b p o i z=>v _ g q h' j b this.2 (f.trans p) o i (gD f n k z)
 .subst e;cases w with |cons a b=>
  cases b with |cons I b=>
  cases b with |cons a3 b=>
  cases b;cases a;cases I;cases a3;exact zc k (l.post f) this.1 λh' j b p o i z=>v _ g q h' j b this.2 (f.trans p) o i (gD f n k z)
end
noncomputable def AJ(Γ:Ctx)(a:Scope):List (Str×NameKind):=a.names.map λ(n,k)=>if(k== .free&&true&&Γ.nm.lookup n==some .cell)then(n,.cell)else(n,k)
def dH(Γ:Ctx)(a:Scope)(i:Nat)(y:Str):Ctx:=
 ⟨(Γ.sl.map λo=>match o with
  |some (x,.cell)=>if a.names.lookup x==some .free then some (x,.cell)else none
  |_=>none).set i (some (y,.local)),AJ Γ a⟩
noncomputable def qY:Slots->Bool
 | []=>true
 |none::r=>qY r
 |some (x,_)::r=>r.all (λo=>match o with
  |some (y,_)=>y != x
  |none=>true)&&qY r
def i9(Γ:Ctx):Bool:=qY Γ.sl&&Γ.sl.all λo=>match o with
 |some (x,k)=>Γ.nm.lookup x==some k&&(k== .local||k== .cell)
 |none=>true
def tW(Γ:Ctx)(a:Scope)(i:Nat)(y:Str):Bool:=
 a.kind== .function&&a.names.all (λx=>x.2 != .cell)&&a.names.all (λx=>x.2 != .local||a.names.lookup x.1==some .local)&&a.names.lookup y==some .local&&
 a.names.all (λx=>x.2 != .free||(Γ.nm.lookup x.1==some .cell&&Γ.sl.contains (some (x.1,.cell))))&&decide (i<Γ.sl.length)&&i9 (dH Γ a i y)
theorem qE:∀{sl:Slots},qY sl=true->∀{i j:Nat} {x:Str} {k f:NameKind},sl[i]? =some (some (x,k))->sl[j]? =some (some (x,f))->i=j
 | [],_,i,j,x,k,f,a,_=>by simp at a
 |none::r,h,i,j,x,k,f,a,b=>by
  cases i with
  |zero=>simp at a
  |succ i=>cases j with
   |zero=>simp at b
   |succ j=>simp at a b;rw [qE (show qY r=true from h) a b]
 |some (z,q)::r,h,i,j,x,k,f,a,b=>by
  simp only [qY,cM,Dq]at h;have g:∀(n:Nat) (l:NameKind),r[n]? ≠some (some (z,l)):=λn l e=>by
   have:=h.1 _ (nR e);simp at this
  cases i with
  |zero=>cases j with
   |zero=>rfl
   |succ j=>simp at a b;obtain ⟨rfl,rfl⟩:=a;exact absurd b (g j f)
  |succ i=>cases j with
   |zero=>simp at a b;obtain ⟨rfl,rfl⟩:=b;exact absurd a (g i k)
   |succ j=>simp at a b;rw [qE h.2 a b]
def i9.names{Γ:Ctx}(h:i9 Γ=true){i:Nat}{x:Str}{k:NameKind}(e:Γ.sl[i]? =some (some (x,k))):Γ.nm.lookup x=some k/\(k= .local\/k= .cell):=by
 dsimp only [i9]at h;simp only [cM,Dq]at h;have:=h.2 _ (nR e);simpa using this
def i9.inj{Γ:Ctx}(h:i9 Γ=true){i j:Nat}{x:Str}{k b:NameKind}(e:Γ.sl[i]? =some (some (x,k)))(a:Γ.sl[j]? =some (some (x,b))):i=j:=by
 dsimp only [i9]at h;simp only [cM]at h;exact qE h.1 e a
section
variable{c:Cfg}{d:Nat}{env:Env}{Γ:Ctx}{m:Loc}{st:St}{ρ:dM}
noncomputable def lZ(env:Env)(names:List (Str×NameKind)):List (Str×Addr):=names.foldl (λcs x=>if x.2==NameKind.free then(x.1,(env.cells.lookup x.1).getD 0)::cs else cs) []
def tX{b:Scope}(h:∀x ∈ b.names,x.2= .free->(env.cells.lookup x.1).isSome=true):closureFor b env=pure (lZ env b.names):=by
 have k:∀(l:List (Str×NameKind)) (cs:List (Str×Addr)),(∀x ∈ l,x.2= .free->(env.cells.lookup x.1).isSome=true)->
   (forIn l cs λ(x:Str×NameKind) (cs:List (Str×Addr))=>(if x.2==NameKind.free then do let a <-cellOf env x.1;pure (ForInStep.yield ((x.1,a)::cs))else pure (ForInStep.yield cs):Sem (ForInStep (List (Str×Addr)))))=
   pure (l.foldl (λcs x=>if x.2==NameKind.free then(x.1,(env.cells.lookup x.1).getD 0)::cs else cs) cs):=by
  intro l
  induction l with
  |nil=>intro cs _;rfl
  |cons x l n=>
   intro cs f;rw [List.forIn_cons,List.foldl_cons];by_cases j:x.2= .free
   .have hb:(x.2==NameKind.free)=true:=by simp [j]
    rw [if_pos hb,if_pos hb];obtain ⟨a,o⟩:=Option.isSome_iff_exists.mp (f x cW j);have e:cellOf env x.1=pure a:=by unfold cellOf;rw [o]
    rw [e,pure_bind,pure_bind,o];exact n _ λy g=>f y (gh _ g)
   .have hb: ¬(x.2==NameKind.free)=true:=by simp [j]
    rw [if_neg hb,if_neg hb,pure_bind];exact n _ λy g=>f y (gh _ g)
 have:=k b.names [] h;dsimp only [closureFor,lZ];simp only [bind_pure];exact this
def zd{names:List (Str×NameKind)}:∀{p:Str×Addr},p ∈ lZ env names->(p.1,NameKind.free) ∈ names/\p.2=(env.cells.lookup p.1).getD 0:=by
 have a:∀(l:List (Str×NameKind)) (cs:List (Str×Addr)) (p:Str×Addr),p ∈ l.foldl (λcs x=>if x.2==NameKind.free then(x.1,(env.cells.lookup x.1).getD 0)::cs else cs) cs->
   p ∈ cs\/((p.1,NameKind.free) ∈ l/\p.2=(env.cells.lookup p.1).getD 0):=by
  intro l
  induction l with
  |nil=>intro cs p h;exact .inl h
  |cons x l e=>
   intro cs p h;rw [List.foldl_cons]at h;refine a_ (e _ p h) (λh=> ?_) λh=> ?_
   .split at h
    .rename_i f;refine a_ (List.mem_cons.mp h) (λb=> ?_) λh=> ?_
     any_goals subst b
     .exact .inr ⟨by have:x=(x.1,NameKind.free):=(by rw [<-beq_iff_eq.mp f]);rw [<-this];exact cW,rfl⟩
     .exact .inl h
    .exact .inl h
   .exact .inr ⟨gh _ h.1,h.2⟩
 intro p h;exact(a names [] p h).elim (λz=>absurd z (tK)) id
def GC{names:List (Str×NameKind)}{x:Str}(h:(x,NameKind.free) ∈ names):∃a,(lZ env names).lookup x=some a:=by
 have g:∀(l:List (Str×NameKind)) (cs:List (Str×Addr)),((∃a,(x,a) ∈ cs)\/(x,NameKind.free) ∈ l)->∃a,(x,a) ∈ l.foldl (λcs x=>if x.2==NameKind.free then(x.1,(env.cells.lookup x.1).getD 0)::cs else cs) cs:=by
  intro l
  induction l with
  |nil=>intro cs h;exact h.elim id (λz=>absurd z (tK))
  |cons y l f=>
   intro cs h;dsimp only [List.foldl_cons];refine f _ ?_;rcases h with⟨a,h⟩ |h
   .split
    .exact .inl ⟨a,gh _ h⟩
    .exact .inl ⟨a,h⟩
   .rcases List.mem_cons.mp h with rfl |h
    .rw [if_pos (by rfl)];exact .inl ⟨_,cW⟩
    .exact .inr h
 obtain ⟨a,j⟩:=g names [] (.inr h)
 cases e:(lZ env names).lookup x with
 |some b=>exact⟨b,rfl⟩
 |none=>
  exfalso;have:∀(l:List (Str×Addr)),(x,a) ∈ l->l.lookup x≠none:=by
   intro l
   induction l with
   |nil=>intro h;exact absurd h (tK)
   |cons p l f=>
    intro h;rw [List.lookup_cons];rcases List.mem_cons.mp h with rfl |h
    .simp
    .split
     .simp
     .exact f h
  exact this _ j e
end
section
variable{c:Cfg}{d:Nat}{env:Env}{Γ:Ctx}{m:Loc}{st:St}{ρ:dM}
structure l0 (Γ:Ctx) (scope:Scope) (i:Nat) (y:Str):Prop where
 kind:scope.kind= .function
 NC:∀x ∈ scope.names,x.2≠ .cell
 locals:∀x ∈ scope.names,x.2= .local->scope.names.lookup x.1=some .local
 var:scope.names.lookup y=some .local
 frees:∀x ∈ scope.names,x.2= .free->Γ.nm.lookup x.1=some .cell/\∃j:Nat,Γ.sl[j]? =some (some (x.1,.cell))
 lt:i<Γ.sl.length
 ctx:i9 (dH Γ scope i y)=true
def l0.of{a:Scope}{i:Nat}{y:Str}(h:tW Γ a i y=true):l0 Γ a i y:=by
 dsimp only [tW]at h;simp only [cM,Dq,beq_iff_eq,CP,bne_iff_ne,ne_eq,decide_eq_true_eq]at h;refine cR h λf q=> ?_;obtain ⟨⟨⟨⟨⟨t,g⟩,k⟩,p⟩,u⟩,n⟩:=f;refine⟨t,g,λx b e=>(k x b).resolve_left λz=>z e,p,λx b e=> ?_,n,q⟩;have:=(u x b).resolve_left λz=>z e;refine⟨this.1,?_⟩;have l:=List.contains_iff_mem.mp this.2;obtain ⟨j,o,e⟩:=Dg l;exact⟨j,by rw [gO o,e]⟩
def AK{f:Scope}{i:Nat}{y:Str}{L:Addr}{h:Heap}{N:Str->Option Value}{v:V}{w:Value}(H:l0 Γ f i y)(t:bk c env Γ ρ m h)(hL:c.b0.get? L=none)(a3: ¬d7 ρ L)(a4:∀p ∈ env.cells,p.2≠L)
  (hn:h.Ns L N) (hy:N y=some w) (hv:VR ρ h v w):bk c (compEnvC f (lZ env f.names) L env) (dH Γ f i y) ρ (m.set i (some v)) h:=by
 have g:∀p ∈ lZ env f.names,(p.1,NameKind.free) ∈ f.names/\(p.1,p.2) ∈ env.cells:=λp l=>by
  refine cR (zd l) λh1 D=> ?_;refine Gp (H.frees _ h1 rfl) λY j A=> ?_;refine lM (t.cells j _ A) λa ov I Y=> ?_;rw [I]at D;exact⟨h1,by rw [D];exact mem_of_lookup I⟩
 have M:(compEnvC f (lZ env f.names) L env).scope.names=(dH Γ f i y).nm:=by
  show(f.names.map λ(n,k)=>if(k== .free&&env.scope.kind== .function&&env.kindOf n==some .cell)then(n,.cell)else(n,k))=AJ Γ f;unfold AJ;refine List.map_congr_left λx Y=> ?_;obtain ⟨n,k⟩:=x;have e1:env.kindOf n=Γ.nm.lookup n:=by unfold Env.kindOf;rw [t.nm]
  simp only [e1,t.kind,beq_self_eq_true]
 have J:∀(j:Nat) (x:Str) (k:NameKind),(dH Γ f i y).sl[j]? =some (some (x,k))->(j=i/\x=y/\k= .local)\/(j≠i/\k= .cell/\Γ.sl[j]? =some (some (x,.cell))/\f.names.lookup x=some .free):=by
  intro j x k e;dsimp only [dH]at e;by_cases A:j=i
  .subst A;rw [vN (by rw [bN];exact H.lt)]at e;cases e;exact .inl ⟨rfl,rfl,rfl⟩
  .rw [j7 (Ne.symm A),yj]at e
   cases es:Γ.sl[j]? with
   |none=>rw [es]at e;cases e
   |some o=>
    rw [es]at e
    cases o with
    |none=>simp at e
    |some q=>
     obtain ⟨z,kz⟩:=q;cases kz<;>simp at e;refine fD e λe1 a1 U=> ?_;subst a1;subst U;exact .inr ⟨A,rfl,rfl,e1⟩
 have Q:∀(j:Nat) (u:V),j≠i->(m.set i (some v))[j]? =some (some u)->m[j]? =some (some u):=λj u A e=>by rwa [j7 (Ne.symm A)]at e
 refine{kind:= ?_,glob:=t.glob,blt:=t.blt,nm:=M,names:= ?_,inj:= ?_,low:=⟨hL,λp l=>t.low.2 _ (g p l).2⟩,own:=⟨a3,λp l=>t.own.2 _ (g p l).2⟩,sep:=⟨λp l=>a4 _ (g p l).2,λp l q hq e=> ?_⟩,ns:=⟨N,hn,?_⟩,cells:= ?_,alive:=λp l=>t.alive _ (g p l).2}
 .exact H.kind
 .intro j x k e;have:=i9.names H.ctx e;refine⟨?_,this.2⟩;unfold Env.kindOf;rw [M];exact this.1
 .intro j j' x k k' e C;exact i9.inj H.ctx e C
 .exact t.sep.2 _ (g p l).2 _ (g q hq).2 e
 .intro j x u e C;refine a_ (J j x .local e) (λE=> ?_) λG=> ?_
  any_goals obtain ⟨rfl,rfl,_⟩:=E
  any_goals obtain ⟨_,D,_⟩:=G
  .rw [List.getElem?_set]at C;simp only [if_true]at C;split at C
   .cases C;exact⟨w,hy,hv⟩
   .cases C
  .cases D
 .intro j x e;refine a_ (J j x .cell e) (λE=> ?_) λG=> ?_
  any_goals obtain ⟨_,_,D⟩:=E
  any_goals obtain ⟨A,_,h3,h4⟩:=G
  .cases D
  .refine aS (t.cells j x h3) λa ov I hc hm=> ?_;refine ez (GC (env:=env) (mem_of_lookup h4)) λb hb=> ?_;have:=(zd (mem_of_lookup hb)).2;rw [I]at this;simp at this;subst this;exact⟨b,ov,hb,hc,λu hu=>hm u (Q j u A hu)⟩
def qF{ρ a:dM}{h h':Heap}{L:Addr}{f:Str->Option Value}(p:Post ρ a h h')(k: ¬d7 ρ L)(j:h.Ns L f): ¬d7 a L:=λq=>by
 refine BR j λo b b g b=> ?_;refine a_ (p.new _ q) (λz=> ?_) λe=>a_ e (λz=> ?_) λz=> ?_
 .exact k z
 .rw [g]at z;cases z
 .exact z
def vm{a2 Y:Expr}{y:Str}{py:Pos}{b3:List Expr}{scope:Scope}{pos:Pos}{i:Nat}{A:Around}{I:It}{a:Addr}{K:KV}{ve:Loc->St->KV->Prop}{vc:Loc->St->(Bool->St->Prop)->Prop}
  {RR:Value->Addr->Result->Shared->Prop} {E:Value->Shared->Prop} (hk:l0 Γ scope i y) (hA:lA d A)
  (g4:∀L st m' KK,ve m' st KK->WE c d (compEnvC scope (lZ env scope.names) L env) (dH Γ scope i y) a2 m' st KK)
  (i4:∀L st m' KK,vc m' st KK->WF c d (compEnvC scope (lZ env scope.names) L env) (dH Γ scope i y) b3 m' st KK)
  {s:Shared} (ho:Own c ρ st s.heap) (hf:bk c env Γ ρ m s.heap) (hi:pQ c (XF env) ρ s.heap a I.src I.bA)
  (hK:compLoop ve vc i I.src st.length m I.bA [] (st++ [.list []]) K)
  (e5:∀v l f h' tk w L N,K v l->bO (λb=>b=L\/b=a) ρ f s.heap h'->s.heap.get? L=none->Own c f l h'->bk c env Γ f m h'->VR f h' v w->h'.Ns L N-> ¬d7 f L->c.b0.get? L=none-> ¬XF env L->RR w L (.ok .next) {s with heap:=h',toks:=tk}):
  wpAny (model pw c.w) A (newList []) (λc9 C=>wpAny (model pw c.w) A (newFunctionEnv scope env.globals (lZ env scope.names) [] env.qual none .none (some env)) (λa5 e1=>
   codeAny (model pw c.w) A (.compStart (.ListComp a2 [⟨.Name y py,Y,b3,0⟩] scope pos) 0 (.ref a) c9 {a5 with scope:=relabel scope env}) (RR c9 a5.locals) e1) E C) E s:=by
 refine cR (pO (n:=0) (xs:=[]) (vs:=[]) ho .nil (gP _)) λo1 p1=> ?_;refine wpAny_newObj_type (wpAny_newFunctionEnv hk.NC (by intro y hy;simp at hy) (λj k u=> ?_) hk.kind);dsimp only at k u ⊢;generalize h4:s.heap.push {cls:= .type "list",dict:=none,data:= .seq ([]:List Value).toArray}=H2 at k u o1 p1 ⊢;have k1:∀b o,H2.get? b=some o->j.get? b=some o:=λb o e=>u.extBut b o (Nat.ne_of_lt (Heap.lt_size e)) (Heap.get?_push_of_some _ e);refine cR (o1.kept k1) λo2 p2=> ?_;have J:=o1.fresh;have f1:=(hf.post p1).post p2;have D:s.heap.get? H2.objs.size=none:=by
  cases e:s.heap.get? H2.objs.size with
  |none=>rfl
  |some o=>
   have:=Heap.d9 (o:={cls:= .type "list",dict:=none,data:= .seq ([]:List Value).toArray}) e;rw [h4,Heap.fresh]at this;cases this
 have LX: ¬XF env H2.objs.size:=λq=>by
  refine ez (hf.GD q) λo g=> ?_;rw [D]at g;cases g
 have La:a≠H2.objs.size:=λz=>by
  refine aB hi.live λo g Q=> ?_;rw [z,D]at g;cases g
 have i2:=(hi.jj p1 (λQ z=>z.elim)).jj p2 (λQ z=>z.elim);have i3:pQ c (λb=>XF env b\/b=H2.objs.size) (ρ++ [(s.heap.objs.size,s.heap.objs.size)]) j a I.src I.bA:=⟨i2.own,i2.base,λz=>z.elim i2.sep La,i2.at_,i2.live⟩;have g2:∃o,j.get? H2.objs.size=some o:=(vf k).elim λo g=>⟨o,g.1⟩;have f4: ¬d7 (ρ++ [(s.heap.objs.size,s.heap.objs.size)]) H2.objs.size:=J.1;have b4:∀L,(compEnvC scope (lZ env scope.names) L env).kindOf y=some .local:=λL=>lookup_relabel_local hk.var;have c8:∀p ∈ env.cells,p.2≠H2.objs.size:=λp hp z=>LX (.inr ⟨p,hp,z.symm⟩);have j2:env.locals≠H2.objs.size:=λz=>LX (.inl z.symm);have a8:∀C:Shared,C={s with heap:=j,toks:=s.toks+([]:List (Str×Value)).length}->
   codeAny (model pw c.w) A (.compLoop (.ListComp a2 [⟨.Name y py,Y,b3,0⟩] scope pos) 0 (.ref a) (.ref s.heap.objs.size) (compEnvC scope (lZ env scope.names) H2.objs.size env))
    (RR (.ref s.heap.objs.size) H2.objs.size) C:=by
  rintro C rfl
  refine codeAny_compLoop_tests
   (λn s'=>∃rest ys l f h' tk N,s'={s with heap:=h',toks:=tk}/\rest.length=n/\compLoop ve vc i I.src st.length m rest ys l K/\Own c f l h'/\
    bO (λb=>b=H2.objs.size\/b=a) (ρ++ [(s.heap.objs.size,s.heap.objs.size)]) f j h'/\pQ c (λb=>XF env b\/b=H2.objs.size) f h' a I.src rest/\h'.Ns H2.objs.size N/\bk c env Γ f m h'/\ ¬d7 f H2.objs.size)
   ?_ I.bA.length ⟨I.bA,[],st++ [.list []],_,j,_,_,rfl,rfl,hK,o2,bO.refl,i3,k,f1,f4⟩
  rintro n s' ⟨rest,ys,l,f,h',tk,N,rfl,bW,H,oo,pp,ii,hn,ff,t⟩
  have aX: ¬XF env a:=λz=>ii.sep (.inl z);have d5:VR f h' (.ref st.length) (.ref s.heap.objs.size):=(eT (ρ:=ρ) (p:=(s.heap.objs.size,s.heap.objs.size)) (h:=h') ho.len).mono pp.pre (bw.refl _)
  cases rest with
  |nil=>
   refine cR H λG k2=> ?_;refine GF ii oo G hA.handled λh5 U p5 o5=> ?_;have a9: ¬(H2.objs.size=a):=λz=>La z.symm;have f0:bO (λb=>b=H2.objs.size\/b=a) ρ f s.heap h5:=
    ((Post.uu (bO.trans p1 p2)).trans pp).trans (p5.mono λb z=> .inl (.inr z))
   refine e5 _ _ _ h5 U _ H2.objs.size N k2 f0 D o5 (ff.jj p5 ⟨λz=>aX (.inl z.symm),λq hq z=>aX (.inr ⟨q,hq,z.symm⟩)⟩) (d5.mono (bS _) p5.tup) (hn.at' λo e=>p5.ext _ _ e t a9) t J.2 LX
  |cons v r=>
   refine cR H λG hv=> ?_;refine Cc ii oo G λh5 U w p5 o5 i5 v5=> ?_;have a9: ¬(H2.objs.size=a):=λz=>La z.symm;have c5:h5.Ns H2.objs.size N:=hn.at' λo e=>p5.ext _ _ e t a9;refine wpAny_assign_Name (wpAny_storeName_local (b4 _) c5 (λh6 a6 f2=> ?_) (by show(scope.kind== .class||(scope.kind== .module&&_))=false;rw [hk.kind];rfl));refine cR (o5.but (I:=H2.objs.size) t J.2 (vf c5) f2.extBut) λo6 p6=> ?_;have f5:=ff.jj p5 ⟨λz=>aX (.inl z.symm),λq hq z=>aX (.inr ⟨q,hq,z.symm⟩)⟩;have f6:=f5.jj p6 ⟨j2,λq hq z=>c8 q hq z⟩;have i6:=i5.jj p6 (λb z=> .inr z);have fI:=AK (i:=i) hk f6 J.2 t c8 a6 (if_pos rfl) (v5.mono p6.pre p6.tup);have g7:bO (λb=>b=H2.objs.size\/b=a) (ρ++ [(s.heap.objs.size,s.heap.objs.size)]) f j h6:=(pp.trans (p5.mono λb z=> .inl (.inr z))).trans (p6.mono λb z=> .inl (.inl z));refine i4 _ _ _ _ hv A f {s with heap:=h6,toks:=U+1} _ _ hA o6 fI ?_;intro b h3 a0 h7 c4 k7 M o7;have L7: ¬d7 a0 H2.objs.size:=qF M t a6;have b2:=a6.at' λo e=>M.ext _ _ e t id;have i7:=i6.jj M (λQ z=>z.elim);have f7:=f6.post M;have c3:=g7.trans M.uu
   cases b with
   |false=>
    exact⟨r.length,by rw [<-bW];exact(bP _),r,ys,h3,a0,h7,c4,_,rfl,rfl,k7,o7,c3,i7,b2,f7,L7⟩
   |true=>
    refine g4 _ _ _ _ k7 A a0 {s with heap:=h7,toks:=c4} _ _ hA o7 (fI.post M) ?_;intro x m8 d0 h8 g6 wx k8 p8 o8 v8;refine fD k8 λe8 g5 b6=> ?_;have L8: ¬d7 d0 H2.objs.size:=qF p8 L7 b2;have c7:=b2.at' λo e=>p8.ext _ _ e L7 id;have i8:=i7.jj p8 (λQ z=>z.elim);have f8:=f7.post p8;have c6:=c3.trans p8.uu;have e3:VR d0 h8 (.ref st.length) (.ref s.heap.objs.size):=(eT (ρ:=ρ) (p:=(s.heap.objs.size,s.heap.objs.size)) (h:=h8) ho.len).mono c6.pre (bw.refl _);refine qZ (c:=c) (s:={s with heap:=h8,toks:=g6}) (K:=λQ l=>compLoop ve vc i I.src st.length m r (ys++ [x]) l K) o8 e3 v8 e8 g5 b6 ?_;intro _ g8 d1 h9 g0 _ k9 p9 o9 _;have L9: ¬d7 d1 H2.objs.size:=qF p9 L8 c7;exact⟨r.length,by rw [<-bW];exact(bP _),r,ys++ [x],g8,d1,h9,g0,_,rfl,rfl,k9,o9,c6.trans p9.uu,i8.jj p9 (λQ z=>z.elim),c7.at' λo e=>p9.ext _ _ e L8 id,f8.post p9,L9⟩
 exact codeAny_compStart_list (a8 _ rfl) (JP (X:=λb=>XF env b\/b=H2.objs.size) i3 hA.handled (a8 _ rfl))
end
def ND(ρ:dM)(h:Heap):Fl->Flow->Prop
 | .next,.next=>True
 | .brk,.brk=>True
 | .cont,.cont=>True
 | .ret v,.ret w=>VR ρ h v w
 |_,_=>False
@[elab_as_elim] def ND.el{ρ:dM}{h:Heap}{fl:Fl}{xW:Flow}{P:Fl->Flow->Prop}(r:ND ρ h fl xW)(k0:P .next .next)(k1:P .brk .brk)(k2:P .cont .cont)(k3:∀v w,VR ρ h v w->P (.ret v) (.ret w)):P fl xW:=by
 cases fl<;>cases xW<;>first |exact False.elim r |exact k0 |exact k1 |exact k2 |exact k3 _ _ r
abbrev KF(c:Cfg)(env:Env)(Γ:Ctx)(ρ:dM)(s:Shared)(K:KS)(Q:Flow->Shared->Prop):Prop:=
 ∀fl m' b a h' e xW,K fl m' b->bO (XF env) ρ a s.heap h'->Own c a b h'->bk c env Γ a m' h'->ND a h' fl xW->Q xW {s with heap:=h',toks:=e}
def WS(c:Cfg)(d:Nat)(env:Env)(Γ:Ctx)(r:Stmt)(m:Loc)(st:St)(K:KS):Prop:=
 ∀(A:Around) (ρ:dM) (s:Shared) (Q:Flow->Shared->Prop) (E:Value->Shared->Prop),lA d A->Own c ρ st s.heap->bk c env Γ ρ m s.heap->KF c env Γ ρ s K Q->wpAny (model pw c.w) A (exec r env) Q E s
def WB(c:Cfg)(d:Nat)(env:Env)(Γ:Ctx)(rs:List Stmt)(m:Loc)(st:St)(K:KS):Prop:=
 ∀(A:Around) (ρ:dM) (s:Shared) (Q:Flow->Shared->Prop) (E:Value->Shared->Prop),lA d A->Own c ρ st s.heap->bk c env Γ ρ m s.heap->KF c env Γ ρ s K Q->wpAny (model pw c.w) A (execs rs env) Q E s
section
variable{c:Cfg}{d:Nat}{env:Env}{Γ:Ctx}{m:Loc}{st:St}{ρ:dM}
def KF.trans{ρ a:dM}{s:Shared}{g:Heap}{j:Nat}{K:KS}{Q:Flow->Shared->Prop}(h:KF c env Γ ρ s K Q)(p:bO (XF env) ρ a s.heap g):KF c env Γ a {s with heap:=g,toks:=j} K Q:=
 λfl m' f e h' b xW k l oo ff r=>h fl m' f e h' b xW k (p.trans l) oo ff r
def NF{K:KS}(h:K .next m st):WB c d env Γ [] m st K:=λa a s a a a e b f=>wpAny_execs_nil (f .next _ _ _ _ s.toks .next h bO.refl e b trivial)
def JQ{r:Stmt}{rs:List Stmt}{K:KS}(h:WS c d env Γ r m st λfl m st=>match fl with
  | .next=>WB c d env Γ rs m st K
  |fl=>K fl m st):WB c d env Γ (r::rs) m st K:=by
 intro A ρ s Q E k n l e;refine wpAny_execs_cons (h A ρ s _ E k n l ?_);intro fl m1 t j o a xW k1 b f f1 g;revert k1;refine ND.el g (λk1=> ?_) (λk1=> ?_) (λk1=> ?_) (λv w g k1=> ?_)
 .exact k1 A j {s with heap:=o,toks:=a} Q E k f f1 (KF.trans e b)
 .exact e .brk _ _ _ _ a .brk k1 b f f1 trivial
 .exact e .cont _ _ _ _ a .cont k1 b f f1 trivial
 .exact e (.ret v) _ _ _ _ a (.ret w) k1 b f f1 g
def NG{k g:Expr}{y:Str}{py:Pos}{l:List Expr}{f:Scope}{pos:Pos}{i:Nat}{K:KV}{J:It->St->Prop}{ve:Loc->St->KV->Prop}{vc:Loc->St->(Bool->St->Prop)->Prop}(h:l0 Γ f i y)
  (t:∀L st m' KK,ve m' st KK->WE c d (compEnvC f (lZ env f.names) L env) (dH Γ f i y) k m' st KK)
  (hvc:∀L st m' KK,vc m' st KK->WF c d (compEnvC f (lZ env f.names) L env) (dH Γ f i y) l m' st KK)
  (hs:∀x,foldedSetIterable g env x=pure x) (hI:WI c d env Γ g m st J) (G:∀I st,J I st->compLoop ve vc i I.src st.length m I.bA [] (st++ [.list []]) K):
  WE c d env Γ (.ListComp k [⟨.Name y py,g,l,0⟩] f pos) m st K:=by
 intro A ρ s Q E H N p hQ;have a4:∀x ∈ f.names,x.2= .free->(env.cells.lookup x.1).isSome=true:=λx hx e=>by
  refine Gp (h.frees x hx e) λD j hj=> ?_;refine lM (p.cells j _ hj) λa D ha D=> ?_;rw [ha];rfl
 refine wpAny_comprehension_free rfl hs (tX a4) h.kind h.locals (hI A ρ s _ E H N p ?_);intro I C c5 h1 c4 a kI q M i1 o;refine vm h H t hvc M (p.post q) i1 (G I C kI) ?_;intro v U u h' tk w L mC kk pp dL oo ff vv hn nL bL LX;refine⟨mC,hn,λh2 Y=> ?_⟩;refine cR (oo.but nL bL (vf hn) Y.extBut) λo2 n=> ?_;have dL0:=gD q N M dL;refine hQ v U u h2 tk w kk ?_ o2 (vv.mono n.pre n.tup);have a1:=(q.uu.trans pp).trans (n.mono λb z=> .inl (.inl z));exact a1.mono λb z=> .inr (z.elim (λz=>z▸dL0) λz=>z▸o)
def NH{k g:Expr}{y x:Str}{py n:Pos}{l:List Expr}{f:Scope}{pos p:Pos}{i j:Nat}{K:KS}{KI:It->St->Prop}{ve:Loc->St->KV->Prop}{vc:Loc->St->(Bool->St->Prop)->Prop}(u:l0 Γ f i y)
  (a7:swapsWith (.ListComp k [⟨.Name y py,g,l,0⟩] f pos) (some (.Name x n)) p.line env=pure true) {kx:NameKind} (D:Γ.sl[j]? =some (some (x,kx)))
  (a9:∀L st m' KK,ve m' st KK->WE c d (compEnvC f (lZ env f.names) L env) (dH Γ f i y) k m' st KK)
  (a0:∀L st m' KK,vc m' st KK->WF c d (compEnvC f (lZ env f.names) L env) (dH Γ f i y) l m' st KK)
  (hs:∀x,foldedSetIterable g env x=pure x) (hI:WI c d env Γ g m st KI) (b2:∀I st,KI I st->compLoop ve vc i I.src st.length m I.bA [] (st++ [.list []]) λv st=>K .next (m.set j (some v)) st):
  WS c d env Γ (.Assign [.Name x n] (.ListComp k [⟨.Name y py,g,l,0⟩] f pos) p) m st K:=by
 intro A ρ s Q E hA ho J hQ;have b9:∀x ∈ f.names,x.2= .free->(env.cells.lookup x.1).isSome=true:=λx D e=>by
  refine Gp (u.frees x D e) λh j hj=> ?_;refine lM (J.cells j _ hj) λa h ha h=> ?_;rw [ha];rfl
 rw [exec_Assign_Name_used _ _ _ _ a7];refine wpAny_bind (wpAny_standAt (wpAny_bind ?_));show wpAny _ A (do let _ <-comprehension (.ListComp k [⟨.Name y py,g,l,0⟩] f pos) f env _ (newList []) false (eval g env) (some (assign (.Name x n) env))) _ _ s;refine wpAny_bind (wpAny_mono (wpAny_comprehension_free (use:=some (assign (.Name x n) env)) (Q:=λh t=>Q .next t) rfl hs (tX b9) u.kind u.locals (hI A ρ s _ E hA ho J ?_)) (λh t G=>wpAny_pure (wpAny_pure G)) λh h e=>e);intro I a3 e4 h1 a2 a kI M o1 i1 H;refine vm (s:={s with heap:=h1,toks:=a2}) (RR:=λa4 C=>compPost (model pw c.w) A E (some (assign (.Name x n) env)) (λh t=>Q .next t) a4 C) u hA a9 a0 o1 (J.post M) i1 (b2 I a3 kI) ?_;intro v b6 ρ' h' tk w L mC kk pp dL oo ff vv hn nL bL LX;refine PySem.wpAny_assign_Name (iF (s:={s with heap:=h',toks:=tk}) D oo ff vv λh2 e5 Y o2 f2=> ?_);have hn2:h2.Ns L mC:=hn.at' λo e=>Y.ext _ _ e nL LX;refine⟨mC,hn2,λh3 U=> ?_⟩;refine cR (o2.but (I:=L) nL bL (vf hn2) U.extBut) λo3 N=> ?_;have b1:=gD M ho o1 dL;have f3:=f2.jj N ⟨λz=>LX (.inl z.symm),λq G z=>LX (.inr ⟨q,G,z.symm⟩)⟩;refine hQ .next _ b6 ρ' h3 _ .next kk ?_ o3 f3 trivial
 have a1:bO (λb=>(b=L\/b=a)\/XF env b) ρ ρ' s.heap h3:=((M.uu.trans (pp.mono λb z=> .inl (.inl z))).trans (Y.mono λb z=> .inl (.inr z))).trans (N.mono λb z=> .inl (.inl (.inl z)));exact a1.mono λb z=>z.elim (λz=> .inr (z.elim (λz=>z▸b1) λz=>z▸H)) .inl
def Qu{x:Str}{a pos:Pos}{e:Expr}{j:Nat}{n:NameKind}{K:KS}(z:Γ.sl[j]? =some (some (x,n)))(y:swapsWith e (some (.Name x a)) pos.line env=pure false)(h:WE c d env Γ e m st λv st=>K .next (m.set j (some v)) st):
  WS c d env Γ (.Assign [.Name x a] e pos) m st K:=by
 intro A ρ s Q E q u f o;refine wpAny_Assign_Name (h A ρ s _ E q u f ?_) y;intro v D ρ1 H C w k1 g t p;exact iF z t (f.post g) p λk b l o2 f2=>o .next _ _ _ k b .next k1 (g.uu.trans l) o2 f2 trivial
def nameAt(Γ:Ctx)(i:Nat)(e:Expr):Bool:=Lu (λa=>false) (λx=>opt (Γ.sl[i]?) λo=>opt o λq=>x==q.1) e
def l_(Γ:Ctx):List Nat->List Expr->Bool
 | [],[]=>true
 |i::a,e::es=>nameAt Γ i e&&l_ Γ a es
 | [],_::_=>false
 |_::_,[]=>false
set_option tactic.hygienic true in
def zh{i:Nat}{b:List Nat}{e:Expr}{es:List Expr}(h:l_ Γ (i::b) (e::es)=true):∃x p k,e= .Name x p/\Γ.sl[i]? =some (some (x,k))/\l_ Γ b es=true:=by
 refine kT h λa f=> ?_;cases e<;>first |exact ff a |skip
 rename_i x p;exact lV a λo e1 a=>lV a λq e2 a=>⟨x,p,q.2,rfl,by rw [e1,e2,eq_of_beq a],f⟩
theorem tY{A:Around}{E:Value->Shared->Prop}:∀{o:List Nat} {es:List Expr} {l:List V} {f:List Value} {m m':Loc} {ρ:dM} {s:Shared} {Q:Unit->Shared->Prop},l_ Γ o es=true->kM o l m=some m'->Own c ρ st s.heap->bk c env Γ ρ m s.heap->cH ρ s.heap l f->
  (∀h' z,bO (XF env) ρ ρ s.heap h'->Own c ρ st h'->bk c env Γ ρ m' h'->Q () {s with heap:=h',toks:=z})->wpAny (model pw c.w) A (assignInOrder ((assignEach es env).map (·.2)) f) Q E s
 | [],[],[],f,m,m',ρ,s,Q,_,b,j,h,n,g=>by
  cases n;cases fE b;exact wpAny_assignInOrder_none (g s.heap s.toks bO.refl j h)
 | [],[],_::_,f,m,m',ρ,s,Q,_,b,j,h,n,g=>oo b
 |i::o,e::es,[],f,m,m',ρ,s,Q,_,b,j,h,n,g=>oo b
 |i::o,e::es,v::l,f,m,m',ρ,s,Q,a,b,j,h,n,g=>by
  obtain ⟨x,p,k,rfl,D,a⟩:=zh a
  cases n with
  |cons t u=>
   refine wpAny_assignInOrder_more (PySem.wpAny_assign_Name (iF D j h t λI G q o2 f2=> ?_));exact tY a b o2 f2 (u.mono q.pre q.tup) λC w y o3 f3=>g C w (q.trans y) o3 f3
 | [],_::_,_,_,_,_,_,_,_,a,_,_,_,_,_=>ff a
 |_::_,[],_,_,_,_,_,_,_,a,_,_,_,_,_=>ff a
theorem Cd:∀{f:List Nat} {es:List Expr} {l:List V} {m m':Loc},l_ Γ f es=true->kM f l m=some m'->(assignEach es env).length=l.length/\(assignEach es env).findIdx? (·.1)=none
 | [],[],[],m,m',_,_=>⟨rfl,rfl⟩
 | [],[],_::_,m,m',_,b=>oo b
 |i::f,e::es,[],m,m',_,b=>oo b
 |i::f,e::es,v::l,m,m',a,b=>by
  obtain ⟨x,p,k,rfl,j,a⟩:=zh a;obtain ⟨h,g⟩:=Cd a b;exact⟨by show(assignEach es env).length+1=_;rw [h];rfl,by
   show((false,assign (.Name x p) env)::assignEach es env).findIdx? (·.1)=none;rw [List.findIdx?_cons,g];rfl⟩
 | [],_::_,_,_,_,a,_=>ff a
 |_::_,[],_,_,_,a,_=>ff a
set_option tactic.hygienic true in
def tZ{A:Around}{E:Value->Shared->Prop}{p:List Nat}{es:List Expr}{k:Nat}{pos:Pos}{v:V}{w:Value}{m':Loc}{s:Shared}{Q:Unit->Shared->Prop}(y:lA d A)(j:l_ Γ p es=true)(h:kZ p v m=some m')(ho:Own c ρ st s.heap)(C:bk c env Γ ρ m s.heap)(G:VR ρ s.heap v w)
  (u:∀h' f,bO (XF env) ρ ρ s.heap h'->Own c ρ st h'->bk c env Γ ρ m' h'->Q () {s with heap:=h',toks:=f}):wpAny (model pw c.w) A (assign (.Tuple es k pos) env w) Q E s:=by
 cases v<;>first |exact oo h |skip
 rename_i l
 cases G with
 |tup _ x vs n g r=>
  refine cR (Cd (env:=env) j h) λl1 l2=> ?_;refine wpAny_assign_Tuple y.handled (fF g) (by rw [l1,<-r.length,ly]) l2 λh' he=> ?_;refine cR (ho.kept λb o e=>he b o (Nat.ne_of_lt (Heap.lt_size e)) e) λz a=> ?_;exact tY j h z (C.post a) (r.mono a.pre a.tup) λq f t o2 D=>u q f (a.uu.trans t) o2 D
def AL(es:List Expr)(k:Nat)(pos:Pos)(v:Expr)(l:Nat)(env:Env):swapsWith v (some (.Tuple es k pos)) l env=pure false:=by
 cases v<;>rfl
noncomputable def notTuple(e:Expr):Bool:=e.ctorIdx != 25
def xJ{es:List Expr}{k:Nat}{tp:Pos}{v:Expr}(h:notTuple v=true):swappedStores [.Tuple es k tp] v env=pure none:=by
 cases v<;>first |rfl |exact ff h
def Qv{a:List Nat}{es:List Expr}{k:Nat}{tp pos:Pos}{e:Expr}{K:KS}(o:l_ Γ a es=true)(x:notTuple e=true)(h:WE c d env Γ e m st λv st=>match kZ a v m with
  |some m'=>K .next m' st
  |none=>False):WS c d env Γ (.Assign [.Tuple es k tp] e pos) m st K:=by
 intro A ρ s Q E f u g p;refine wpAny_Assign_stores (h A ρ s _ E f u g ?_) (show swapsWith e (some (.Tuple es k tp)) pos.line env=pure false from AL ..) (xJ x);intro v st1 C h1 z w k1 j t q
 cases hm:kZ a v m with
 |none=>rw [hm]at k1;exact k1.elim
 |some m'=>
  rw [hm]at k1;show wpAny _ _ (assign (.Tuple es k tp) env w) _ _ _;exact tZ f o hm t (g.post j) q λl b n o2 y=>p .next _ _ _ l b .next k1 (j.uu.trans n) o2 y trivial
end
section
variable{c:Cfg}{d:Nat}{env:Env}{Γ:Ctx}{m:Loc}{st:St}{ρ:dM}
def DC(o:Expr)(x:Str)(pos:Pos)(v:Expr)(l:Nat)(env:Env):swapsWith v (some (.Attribute o x pos)) l env=pure false:=by
 cases v<;>rfl
def GG(o i:Expr)(pos:Pos)(v:Expr)(l:Nat)(env:Env):swapsWith v (some (.Subscript o i pos)) l env=pure false:=by
 cases v<;>rfl
noncomputable def mY(e:Expr):Bool:=Nat.blt e.ctorIdx 8||Nat.blt 10 e.ctorIdx
def t7{v:Expr}(h:mY v=true)(t:Option Expr)(l:Nat)(env:Env):swapsWith v t l env=pure false:=by
 cases v<;>first |rfl |exact ff h
set_option tactic.hygienic true in
def JR{o e:Expr}{x:Str}{f:Nat}{tp pos:Pos}{K:KS}{y:KV}{w:V->V->St->Prop}(T:fT c)(hf':f<NS)(U:x=sn f)(I:WE c d env Γ e m st y)(h2:∀v st,y v st->WE c d env Γ o m st (w v))
  (h:∀v o st,w v o st->match o with
   | .ref a=>match st[a]? with
    |some (.inst k n)=>(fj k f=none/\n.length<500)/\K .next m (st.set a (.inst k (putL f v n)))
    |_=>False
   |_=>False):WS c d env Γ (.Assign [.Attribute o x tp] e pos) m st K:=by
 intro A ρ s Q E C M j G;subst U;refine plainObj_wpAny_Assign_Attribute (I A ρ s _ E C M j ?_) (DC ..);intro v u z q t wv k1 l L J;refine h2 v u k1 A z {s with heap:=q,toks:=t} _ E C L (j.post l) ?_;intro D g a0 a3 a1 wo k2 b o2 N;have:=h v D g k2;cases D<;>try exact this.elim
 rename_i a;dsimp only at this
 cases ea:g[a]? with
 |none=>rw [ea]at this;exact this.elim
 |some ob=>
  rw [ea]at this;cases ob<;>try exact this.elim
  rename_i k n;exact xC T o2 N (J.mono b.pre b.tup) ea hf' this.1 λh' H p o=>G .next _ _ _ h' H .next this.2 (Post.uu (bO.trans (bO.trans l b) p)) o (((j.post l).post b).post p) trivial
def NI{o i e:Expr}{tp pos:Pos}{K:KS}{C:KV}{K2:V->V->St->Prop}{K3:V->V->V->St->Prop}(h1:WE c d env Γ e m st C)(h2:∀v st,C v st->WE c d env Γ o m st (K2 v))(h3:∀v o st,K2 v o st->WE c d env Γ i m st (K3 v o))
  (L:∀(A:Around) (ρ:dM) (s:Shared) (Q:Unit->Shared->Prop) (E:Value->Shared->Prop) (st:St) (v o i:V) (h j g:Value),lA d A->Own c ρ st s.heap->VR ρ s.heap v h->VR ρ s.heap o j->VR ρ s.heap i g->K3 v o i st->
   (∀f h' q,K .next m f->Post ρ ρ s.heap h'->Own c ρ f h'->Q () {s with heap:=h',toks:=q})->wpAny (model pw c.w) A (setItem j g h) Q E s):WS c d env Γ (.Assign [.Subscript o i tp] e pos) m st K:=by
 intro A ρ s Q E k ho l hQ;refine wpAny_Assign_Subscript (h1 A ρ s _ E k ho l ?_) (GG ..);intro v y D w x h k1 n o1 v1;refine h2 v y k1 A D {s with heap:=w,toks:=x} _ E k o1 (l.post n) ?_;intro U z J Y M j k2 b o2 v2;refine h3 v U z k2 A J {s with heap:=Y,toks:=M} _ E k o2 ((l.post n).post b) ?_;intro iv I N H G g k3 a o3 v3;exact L A N {s with heap:=H,toks:=G} _ E I v U iv h j g k o3 (v1.mono (b.trans a).pre (b.trans a).tup) (v2.mono a.pre a.tup) v3 k3 λf h' q kk p o=>
  hQ .next _ _ _ h' q .next kk (Post.uu (bO.trans (bO.trans (bO.trans n b) a) p)) o ((((l.post n).post b).post a).post p) trivial
@[elab_as_elim] def JS{op:uF}{v y:V}{e f:Int->Int->Prop}{P:uF->V->V->Prop}(k:match (generalizing:=false) op,v,y with
  | .add,.int a,.int b=>e a b
  | .sub,.int a,.int b=>f a b
  |_,_,_=>False) (h:∀a b,e a b->P .add (.int a) (.int b)) (g:∀a b,f a b->P .sub (.int a) (.int b)):P op v y:=by
 cases op<;>first |exact False.elim k |skip
 all_goals cases v<;>first |exact False.elim k |skip
 all_goals cases y<;>first |exact False.elim k |exact h _ _ k |exact g _ _ k
def Qw{x:Str}{px pos:Pos}{e:Expr}{j:Nat}{kx:NameKind}{v:V}{op:uF}{pop:Operator}{K:KS}{M:KV}(I:pop=(match op with | .sub=> .Sub |_=> .Add))(n:Γ.sl[j]? =some (some (x,kx)))(Y:m[j]? =some (some v))(h:WE c d env Γ e m st M)
  (o:∀y st,M y st->match (generalizing:=false) op,v,y with
   | .add,.int a,.int b=>K .next (m.set j (some (.int (a+b)))) st
   | .sub,.int a,.int b=>K .next (m.set j (some (.int (a-b)))) st
   |_,_,_=>False):WS c d env Γ (.AugAssign (.Name x px) pop e pos) m st K:=by
 intro A ρ s Q E hA ho f H;subst I;have load:∀(D:Value->Shared->Prop),(∀w,VR ρ s.heap v w->D w s)->wpAny (model pw c.w) A (loadName env x) D E s:=λD L=>by
  refine cR (f.names j x kx n) λo J=> ?_;rcases J with rfl |rfl
  .refine aB f.ns λmr hn a0=> ?_;refine aB (a0 j x v n Y) λw e r=> ?_;exact wpAny_loadName_local f.kind o hn e (L w r)
  .refine aS (f.cells j x n) λa ov g h3 h4=> ?_;refine aB (h4 v Y) λw N r=> ?_;subst N;exact wpAny_loadName_cell f.kind o g h3 (L w r)
 refine wpAny_AugAssign_Name (load _ λw z=> ?_);refine h A ρ s _ E hA ho f ?_;intro y G a9 h1 a8 wy k1 p U v1;have k:=o y G k1;revert z v1;refine JS (op:=op) (v:=v) (y:=y) k (λa b k=> ?_) (λa b k=> ?_)
 all_goals
  intro z v1;refine VR.gC z λt=> ?_;refine VR.gC v1 λu=> ?_
 .exact PySem.P.iadd_int (iF n U (f.post p) (.int _ _) λg l q o2 C=>H .next _ _ _ g l .next k (p.uu.trans q) o2 C trivial)
 .exact PySem.P.isub_int (iF n U (f.post p) (.int _ _) λg l q o2 C=>H .next _ _ _ g l .next k (p.uu.trans q) o2 C trivial)
def Sg{e:Expr}{pos:Pos}{K:KS}(k:mY e=true)(h:WE c d env Γ e m st λx st=>K .next m st):WS c d env Γ (.Expr e pos) m st K:=by
 intro A ρ s Q E n g a j;have hi:interactive env=false:=by unfold interactive;rw [a.kind];rfl
 refine wpAny_Expr_any (h A ρ s _ E n g a ?_) hi (t7 k ..);intro v p q l f w k1 b o y;exact j .next _ _ _ l f .next k1 b.uu o (a.post b) trivial
def Qx{e:Expr}{pos:Pos}{K:KS}(h:WE c d env Γ e m st λv st=>K (.ret v) m st):WS c d env Γ (.Return (some e) pos) m st K:=by
 intro A ρ s Q E n g a j;refine wpAny_Return_some (h A ρ s _ E n g a ?_);intro v p q k f w k1 b o l;exact j (.ret v) _ _ _ k f (.ret w) k1 b.uu o (a.post b) l
def NJ{pos:Pos}{K:KS}(h:K (.ret .none) m st):WS c d env Γ (.Return none pos) m st K:=λa a s a a a e b f=>
 wpAny_Return_none (f (.ret .none) _ _ _ _ s.toks (.ret .none) h bO.refl e b .none)
def NK{pos:Pos}{K:KS}(h:K .next m st):WS c d env Γ (.Pass pos) m st K:=λa a s a a a e b f=>
 wpAny_Pass (f .next _ _ _ _ s.toks .next h bO.refl e b trivial)
def Sh{t:Expr}{b o:List Stmt}{pos:Pos}{K:KS}{KB:Bool->St->Prop}(w:WT c d env Γ t m st KB)(hb:∀st,KB true st->WB c d env Γ b m st K)(x:∀st,KB false st->WB c d env Γ o m st K):WS c d env Γ (.If t b o pos) m st K:=by
 intro A ρ s Q E j q h k;refine wpAny_If (w A ρ s _ E j q h ?_);intro v f g l e k1 a n;cases v
 .simp only [rB,if_false];exact x f k1 A g {s with heap:=l,toks:=e} Q E j n (h.post a) (KF.trans k a.uu)
 .simp only [if_true];exact hb f k1 A g {s with heap:=l,toks:=e} Q E j n (h.post a) (KF.trans k a.uu)
def JT{t:Expr}{b:List Stmt}{pos:Pos}{K:KS}{z:Loc->St->(Bool->St->Prop)->Prop}{vb:Loc->St->KS->Prop}{n:Nat}(M:∀m st KB,z m st KB->WT c d env Γ t m st KB)(hb:∀m st K,vb m st K->WB c d env Γ b m st K)(h:dB z vb n m st K):
  WS c d env Γ (.While t b [] pos) m st K:=by
 intro A ρ s Q E I N Y x;refine wpAny_While (codeAny_whileLoop (λn G=>∃m' g a h' u,G={s with heap:=h',toks:=u}/\dB z vb n m' g K/\bO (XF env) ρ a s.heap h'/\Own c a g h'/\bk c env Γ a m' h') ?_ n ⟨m,st,ρ,s.heap,s.toks,rfl,h,bO.refl,N,Y⟩)
 rintro n G ⟨m',g,a,h',u,rfl,D,pp,oo,ff⟩
 cases n with
 |zero=>exact D.elim
 |succ n=>
  refine M m' g _ D A a {s with heap:=h',toks:=u} _ _ I oo ff ?_;intro U st1 C H o k1 l J;cases U
  .simp only [rB,if_false];exact wpAny_execs_nil (x .next _ _ _ H o .next k1 (pp.trans l.uu) J (ff.post l) trivial)
  .simp only [if_true];refine hb m' st1 _ k1 A C {s with heap:=H,toks:=o} _ _ I J (ff.post l) ?_;intro fl m2 p q j f xW k2 L o2 k y;have e:=(pp.trans l.uu).trans L;revert k2;refine ND.el y (λk2=> ?_) (λk2=> ?_) (λk2=> ?_) (λv w y k2=> ?_)
   .exact⟨n,Df n,m2,p,q,j,f,rfl,k2,e,o2,k⟩
   .exact x .next _ _ _ j f .next k2 e o2 k trivial
   .exact⟨n,Df n,m2,p,q,j,f,rfl,k2,e,o2,k⟩
   .exact x (.ret v) _ _ _ j f (.ret w) k2 e o2 k y
def NL{X:Addr->Prop}{A:Around}{E:Value->Shared->Prop}{b:Expr}{I:Addr}{v:Value}{src:Option (Nat×List V)}{u:List V}{s:Shared}{Q:Unit->Shared->Prop}(hi:pQ c X ρ s.heap I src u)(h:Q () s):wpAny (model pw c.w) A (letOwnedTupleGo b (.ref I) v) Q E s:=by
 have w:∃o n vs,s.heap.get? I=some o/\o.cls= .type n/\o.data= .fields vs/\ ["enumerate","zip","dict_itemiterator","dict_reverseitemiterator","odict_iterator","itertools.zip_longest","itertools.pairwise"].contains n=false:=by
  have y:=hi.at_;unfold zj at y;split at y
  .refine aB y λq G y=> ?_;refine a_ y (λp=> ?_) λt=> ?_
   any_goals obtain ⟨k,⟨o,g,j,f⟩,e⟩:=p
   any_goals obtain ⟨k,hk,⟨o,g,j,f⟩,e⟩:=t
   .exact⟨o,_,_,g,j,f,by decide⟩
   .exact⟨o,_,_,g,j,f,by decide⟩
  .refine a_ y (λp=> ?_) λt=> ?_
   any_goals obtain ⟨x,vs,n,l,k,g,r,⟨o,g',j,f⟩,e⟩:=p
   any_goals obtain ⟨x,n,step,hit,e⟩:=t
   .exact⟨o,_,_,g',j,f,by decide⟩
   .exact⟨_,_,_,hit,rfl,rfl,by decide⟩
 refine jx w λo n vs g j f z=> ?_;have go:∀a,wpAny (model pw c.w) A (do
   let o <-load I
   match o.cls,o.data with
   | .type n,.fields vs=>
    if ["enumerate","zip","dict_itemiterator","dict_reverseitemiterator","odict_iterator","itertools.zip_longest","itertools.pairwise"].contains n&&vs[0]? ==some (rawInt a)then
     rule "for.unpacks-the-owned-tuple"
     updateField I 0 .none
   |_,_=>pure ():Sem Unit) Q E s:=λa=>by
  refine wpAny_bind (wpAny_load g ?_);rw [j,f];dsimp only;rw [z,Ab];exact wpAny_pure h
 cases b<;>first |exact wpAny_pure h |(cases v<;>first |exact wpAny_pure h |exact go _)
def Lx{g j:Expr}{b:List Stmt}{pos:Pos}{K:KS}{KI:It->St->Prop}{vb:Loc->St->KS->Prop}{bind:V->Loc->Option Loc}(hs:∀x,foldedSetIterable j env x=pure x)(hI:WI c d env Γ j m st KI)
  (hbind:∀(A:Around) (ρ:dM) (s:Shared) (st:St) (m m':Loc) (v:V) (w:Value) (Q:Unit->Shared->Prop) (E:Value->Shared->Prop),lA d A->bind v m=some m'->Own c ρ st s.heap->bk c env Γ ρ m s.heap->VR ρ s.heap v w->
   (∀h' u,bO (XF env) ρ ρ s.heap h'->Own c ρ st h'->bk c env Γ ρ m' h'->Q () {s with heap:=h',toks:=u})->wpAny (model pw c.w) A (assign g env w) Q E s)
  (hb:∀m st K,vb m st K->WB c d env Γ b m st K) (b9:∀I st,KI I st->bC vb bind I.src I.bA m st K):WS c d env Γ (.For g j b [] pos) m st K:=by
 intro A ρ s Q E J ho hf hQ;refine wpAny_For (hI A ρ s _ E J ho hf ?_) hs;intro I L a9 h1 a7 a kI p1 o1 i1 a2;refine codeAny_forLoop_any (λn s'=>∃e m' h f h' u,s'={s with heap:=h',toks:=u}/\e.length=n/\bC vb bind I.src e m' h K/\bO (λb=>XF env b\/b=a) ρ f s.heap h'/\Own c f h h'/\bk c env Γ f m' h'/\pQ c (XF env) f h' a I.src e)
  ?_ I.bA.length ⟨I.bA,m,L,a9,h1,a7,rfl,rfl,b9 I L kI,p1.uu,o1,hf.post p1,i1⟩
 rintro n s' ⟨e,m',h,f,h',u,rfl,bW,hl,pp,oo,ff,ii⟩
 have drop:∀{N:dM} {h2:Heap},bO (λb=>XF env b\/b=a) ρ N s.heap h2->bO (XF env) ρ N s.heap h2:=λp=>p.mono λb z=>z.elim .inl λz=> .inr (z▸a2);have aX: ¬XF env a:=ii.sep;have fa: ¬(env.locals=a)/\∀q ∈ env.cells,¬(q.2=a):=⟨λz=>aX (.inl z.symm),λq hq z=>aX (.inr ⟨q,hq,z.symm⟩)⟩
 cases e with
 |nil=>
  obtain ⟨k,hK⟩:=hl;refine GF (s:={s with heap:=h',toks:=u}) ii oo k J.handled λG o y Y=> ?_;exact wpAny_execs_nil (hQ .next _ _ _ G o .next hK (drop (pp.trans (y.mono λb z=> .inl (.inr z)))) Y (ff.jj y fa) trivial)
 |cons v r=>
  obtain ⟨k,hv⟩:=hl;refine Cc (s:={s with heap:=h',toks:=u}) ii oo k λG o w y Y i5 v5=> ?_;refine NL (s:={s with heap:=G,toks:=o}) i5 ?_
  cases hm:bind v m' with
  |none=>rw [hm]at hv;exact hv.elim
  |some m2=>
   rw [hm]at hv;have f5:=ff.jj y fa;refine hbind A f {s with heap:=G,toks:=o} h m' m2 v w _ _ J hm Y f5 v5 ?_;intro h6 b7 p6 o6 f6;have i6:=i5.jj p6 (λzz z=>z);have b6:=(pp.trans (y.mono λb z=> .inl (.inr z))).trans (p6.mono λb z=> .inl (.inl z));refine hb m2 h _ hv A f {s with heap:=h6,toks:=b7} _ _ J o6 f6 ?_;intro fl m7 U M H t xW k7 p7 D C r7;have i7:=i6.jj p7 (λzz z=>z);have l:=b6.trans (p7.mono λb z=> .inl (.inl z));have lt:r.length<n:=bW▸Df r.length;revert k7;refine ND.el (fl:=fl) (xW:=xW) r7 (λk7=> ?_) (λk7=> ?_) (λk7=> ?_) (λv w r7 k7=> ?_)
   .exact⟨r.length,lt,r,m7,U,M,H,t,rfl,rfl,k7,l,D,C,i7⟩
   .exact hQ .next _ _ _ H t .next k7 (drop l) D C trivial
   .exact⟨r.length,lt,r,m7,U,M,H,t,rfl,rfl,k7,l,D,C,i7⟩
   .exact hQ (.ret v) _ _ _ H t (.ret w) k7 (drop l) D C r7
end
noncomputable def ev{b:Type}(c:Nat->Nat->Bool):KasT b->b
 | .ret a=>a
 | .ask i j k=>ev c (k (c i j))
theorem mZ{a b:Type}(c:Nat->Nat->Bool)(f:a->KasT b):∀t:KasT a,ev c (t.bind f)=ev c (f (ev c t))
 | .ret _=>rfl
 | .ask i j k=>mZ c f (k (c i j))
theorem GH{a:Type}{cmp:Nat->Nat->(Bool->Shared->Prop)->Shared->Prop}{c:Nat->Nat->Bool}{s:Shared}(b:∀i j C,C (c i j) s->cmp i j C s){G:a->Shared->Prop}:∀t:KasT a,G (ev c t) s->t.kasWp cmp G s
 | .ret _,h=>h
 | .ask i j k,h=>b i j _ (GH b (k (c i j)) h)
section
variable(key:Nat->Nat)
noncomputable def cK(i j:Nat):Bool:=decide (key i<key j)
noncomputable def kp(p:Array Nat)(i:Nat):Nat:=key (p.getD i 0)
def Up(p:Array Nat)(n:Nat):Prop:=∀i j,i<=j->j<n->kp key p i<=kp key p j
def Down(p:Array Nat)(n:Nat):Prop:=∀i j,i<=j->j<n->kp key p j<=kp key p i
def qG{p:Array Nat}{i j:Nat}(a:j<=p.size)(k:Nat):kp key (kas_rev p i j) k=if i<=k/\k<j then kp key p (i+j-1-k)else kp key p k:=by
 dsimp only [kp,kas_rev];have:=getElem?_mirror_all (i:=i) a k;simp only [Array.getD_eq_getD_getElem?,this];split<;>rfl
def DE{p:Array Nat}{src d:Nat}(b:src<p.size)(a:d<=src)(k:Nat):kp key (bubble p src d) k=if k=src-d then kp key p src else if src-d<k/\k<=src then kp key p (k-1)else kp key p k:=by
 dsimp only [kp];have:=getElem?_bubble b d a k;simp only [Array.getD_eq_getD_getElem?,this];split
 .rfl
 .split<;>rfl
def JU{p:Array Nat}{n:Nat}(h:Up key p n)(k:kp key p (n-1)<=kp key p n):Up key p (n+1):=λi j a b=>by
 refine a_ (oO j n) (λq=> ?_) λq=> ?_
 .exact h i j a q
 .cases iW (xx b) q;refine a_ (oO i n) (λr=> ?_) λr=> ?_
  .exact iA (h i (n-1) (Ds r) (Nat.sub_lt (Az r) Nat.one_pos)) k
  .cases iW a r;exact bP _
def kj{p:Array Nat}{n:Nat}(h:Down key p n)(k:kp key p n<=kp key p (n-1)):Down key p (n+1):=λi j a b=>by
 refine a_ (oO j n) (λq=> ?_) λq=> ?_
 .exact h i j a q
 .cases iW (xx b) q;refine a_ (oO i n) (λr=> ?_) λr=> ?_
  .exact iA k (h i (n-1) (Ds r) (Nat.sub_lt (Az r) Nat.one_pos))
  .cases iW a r;exact bP _
def GI(p:Array Nat):∀(f n:Nat),1<=n->Up key p n->let m:=ev (cK key) (kas_asc p f n);n<=m/\m<=n+f/\Up key p m/\(m<n+f->kp key p m<kp key p (m-1)):=by
 intro zl
 induction zl with
 |zero=>
  intro n j b;exact⟨bP _,bP _,b,λh=>absurd h (xu _)⟩
 |succ f l=>
  intro n j b;dsimp only [kas_asc];simp only [ev];by_cases h:key (p.getD n 0)<key (p.getD (n-1) 0)
  .have:cK key (p.getD n 0) (p.getD (n-1) 0)=true:=decide_eq_true h;rw [this];simp only [if_true,ev];exact⟨bP _,(zr _),b,λa=>h⟩
  .have:cK key (p.getD n 0) (p.getD (n-1) 0)=false:=decide_eq_false (Nat.not_lt.mpr (cD h));rw [this];simp only [rB,if_false];have c:=JU key b (cD h);refine qs (l (n+1) (sG 1 _) c) λe g k d=> ?_;exact⟨(zs e),(cD λa=>bx (jt _ _ _) (AN aI (AN (AN aE (AN bg aA)) aA)) (AN (AN (AN aE aA) bg) aI) (aH g a) rfl),k,λh=>d (bK λa=>bx (jt _ _ _) (AN (AN aI aA) (AN (AN aE aA) bg)) (AN (AN aE (AN bg aA)) aI) (aH h a) rfl)⟩
def t8{p:Array Nat}{n:Nat}:∀i,n+1-(0+1)<=i->i<n+1->kp key p i=kp key p (n+1-1):=λi a b=>by
 have:i=n+1-1:=iW (xx b) a;rw [this]
def t9{p:Array Nat}{a n:Nat}(c:n<=p.size)(b:∀i,a<=i->i<n->kp key p i=kp key p (n-1))(k:Nat):kp key (kas_rev p a n) k=kp key p k:=by
 rw [qG key c];split
 .rename_i hh;have z:=Az hh.2;rw [Nat.add_sub_assoc z,b _ (Nat.le_sub_of_add_le (C3 (Ds hh.2) a)) (Am (Nat.sub_le_sub_left hh.1 _) (by rw [Nat.add_sub_cancel_left];exact Nat.sub_lt z Nat.one_pos)),b k hh.1 hh.2]
 .rfl
structure DR (p:Array Nat) (m:Nat) (r:Array Nat×Nat×Nat):Prop where
 sz:r.1.size=p.size
 pm:r.1.Perm p
 hi:r.2.1<=m
 q:r.2.2+1<=r.2.1
 dn:Down key r.1 r.2.1
 eq:∀i,r.2.1-(r.2.2+1)<=i->i<r.2.1->kp key r.1 i=kp key r.1 (r.2.1-1)
def JV(m:Nat):∀(f:Nat) (p:Array Nat) (n q:Nat),n+f=m->m<=p.size->q+1<=n->Down key p n->(∀i,n-(q+1)<=i->i<n->kp key p i=kp key p (n-1))->DR key p m (ev (cK key) (kas_desc f p n q)):=by
 intro zl
 induction zl with
 |zero=>
  intro p n q g _ l a c;exact⟨rfl,Array.Perm.refl _,uD g,l,a,c⟩
 |succ f t=>
  intro p n q g e l a c;have b:=(Nat.succ_add_eq_add_succ n f).trans g;have v:=iA (Nat.le_add_right _ _) (uD g);dsimp only [kas_desc];simp only [ev];by_cases h:key (p.getD n 0)<key (p.getD (n-1) 0)
  .rw [show cK key (p.getD n 0) (p.getD (n-1) 0)=true from decide_eq_true h];simp only [if_true];by_cases o:q>0
   .rw [if_pos o];have k:=t9 key (zt v e) c;have sz:(kas_rev p (n-(q+1)) n).size=p.size:=mirror_size _ _ _ _;have r:=t (kas_rev p (n-(q+1)) n) (n+1) 0 b (zt e (zf sz)) (sG 1 _) (kj key (λi j u x=>by rw [k,k];exact a i j u x) (by rw [k,k];exact xy h)) (t8 key);exact⟨r.sz.trans sz,r.pm.trans (mirror_perm _ _ _ _),r.hi,r.q,r.dn,r.eq⟩
   .rw [if_neg o];exact t p (n+1) 0 b e (sG 1 _) (kj key a (xy h)) (t8 key)
  .rw [show cK key (p.getD n 0) (p.getD (n-1) 0)=false from decide_eq_false h];simp only [rB,if_false,ev];by_cases d:key (p.getD (n-1) 0)<key (p.getD n 0)
   .rw [show cK key (p.getD (n-1) 0) (p.getD n 0)=true from decide_eq_true d];exact⟨rfl,Array.Perm.refl _,v,l,a,c⟩
   .rw [show cK key (p.getD (n-1) 0) (p.getD n 0)=false from decide_eq_false d];refine t p (n+1) (q+1) b e (za l 1) (kj key a (cD d)) λi y w=> ?_;rcases oO i n with r |r
    .exact(c i (zt (uD (Nat.add_sub_add_right n 1 (q+1)).symm) y) r).trans (iW (cD d) (cD h)).symm
    .cases iW (xx w) r;rfl
def AM{p:Array Nat}{n:Nat}(c:n<=p.size)(h:Down key p n):Up key (kas_rev p 0 n) n:=λi j a b=>by
 have e:0+n-1-i<n:=Am (Nat.sub_le _ _) (by rw [Nat.zero_add];exact Nat.sub_lt (Az b) Nat.one_pos);rw [qG key c,qG key c,if_pos ⟨gP _,Am a b⟩,if_pos ⟨gP _,b⟩];exact h _ _ (Nat.sub_le_sub_left a _) e
structure CR (p:Array Nat) (m:Nat) (r:Nat×Array Nat):Prop where
 sz:r.2.size=p.size
 pm:r.2.Perm p
 one:1<=r.1
 hi:r.1<=m
 up:Up key r.2 r.1
variable{key}in
def CR.of{p q:Array Nat}{m:Nat}{r:Nat×Array Nat}(a:CR key q m r)(sz:q.size=p.size)(pm:q.Perm p):CR key p m r:=⟨a.sz.trans sz,a.pm.trans pm,a.one,a.hi,a.up⟩
def zk{p:Array Nat}{n a:Nat}(b:1<=n)(c:n<=a)(g:a<=p.size)(d:Down key p n):CR key p a (ev (cK key) (kas_tail3 n a p)):=by
 dsimp only [kas_tail3];simp only [mZ,ev];refine qs (GI key (kas_rev p 0 n) (a-n) n b (AM key (zt c g) d)) λe f h j=> ?_;exact⟨mirror_size _ _ _ _,mirror_perm _ _ _ _,zt b e,zt f (ze (EL c)),h⟩
def q_{p:Array Nat}{n b:Nat}(v:n+1<=b)(e:b<=p.size)(u:Down key p (n+1)):
  CR key p b (ev (cK key) (kas_descPart n b p)):=by
 dsimp only [kas_descPart];simp only [mZ];have a:=JV key b (b-(n+1)) p (n+1) 0 (EL v) e (sG 1 _) u (t8 key);generalize ev (cK key) (kas_desc (b-(n+1)) p (n+1) 0)=r at a;obtain ⟨o,h,x⟩:=r;obtain ⟨c,g,d,t,f,k⟩:=a;dsimp only at c g d t f k ⊢;have q:=zt (sG 1 _) t;split
 .have m:=t9 key (zt (zt d e) (zf c)) k;have sz:(kas_rev o (h-(x+1)) h).size=o.size:=mirror_size _ _ _ _;exact(zk key q d (zt (zt e (zf c)) (zf sz)) (λi j l w=>by rw [m,m];exact f i j l w)).of (sz.trans c) ((mirror_perm _ _ _ _).trans g)
 .exact(zk key q d (zt e (zf c)) f).of c g
def GJ{p:Array Nat}{a:Nat}(t:1<=a)(m:a<=p.size):CR key p a (ev (cK key) (kas_count a p)):=by
 dsimp only [kas_count];simp only [mZ];obtain ⟨e,d,f,k⟩:=GI key p (a-1) 1 (bP _) (λi j b c=>by cases Nat.lt_one_iff.mp c;cases Nat.le_zero.mp b;exact bP _);rw [EL t]at d k;generalize ev (cK key) (kas_asc p (a-1) 1)=n at e d f k;by_cases o:n=a
 .rw [show(n==a)=true from beq_iff_eq.mpr o];exact⟨rfl,Array.Perm.refl _,e,d,f⟩
 .rw [show(n==a)=false from beq_false_of_ne o];simp only [rB,if_false];have lt:=Nat.lt_of_le_of_ne d o;have h:=k lt;by_cases l:n>1
  .rw [if_pos l];simp only [ev];by_cases q:key (p.getD 0 0)<key (p.getD (n-1) 0)
   .rw [show cK key (p.getD 0 0) (p.getD (n-1) 0)=true from decide_eq_true q];exact⟨rfl,Array.Perm.refl _,e,d,f⟩
   .rw [show cK key (p.getD 0 0) (p.getD (n-1) 0)=false from decide_eq_false q];simp only [rB,if_false];have all:∀i,0<=i->i<n->kp key p i=kp key p (n-1):=λi u hi=>iW (f i (n-1) (Ds hi) (Nat.sub_lt e Nat.one_pos)) (iA (cD q) (f 0 i (gP _) hi));have g:=t9 key (zt d m) all;have sz:(kas_rev p 0 n).size=p.size:=mirror_size _ _ _ _;exact(q_ key lt (zt m (zf sz)) (kj key (λi j b c=>by rw [g,g,all i (gP _) (Am b c),all j (gP _) c];exact bP _) (by rw [g,g];exact xy h))).of sz (mirror_perm _ _ _ _)
  .rw [if_neg l];cases iW (cD l) e;exact q_ key lt m (kj key (λi j b c=>by cases Nat.lt_one_iff.mp c;cases Nat.le_zero.mp b;exact bP _) (xy h))
def mid{l r:Nat}(f:Nat)(h:l<r)(k:r-l<=f+1):l<=(l+r)/2/\(l+r)/2<r/\(l+r)/2-l<=f/\r-((l+r)/2+1)<=f:=by
 have a:=(Nat.le_div_iff_mul_le Nat.two_pos).mpr (by rw [Nat.mul_two];exact C3 (xy h) l);have b:=Nat.div_lt_of_lt_mul (by rw [Nat.two_mul];exact Nat.add_lt_add_right h r);generalize (l+r)/2=m at a b ⊢;exact⟨a,b,xx (pG (Nat.sub_lt_sub_right a b) k),iA (Nat.sub_le_sub_left (Nat.succ_le_succ a) r) (Nat.sub_le_of_le_add (iA (Nat.le_add_of_sub_le k) (uD (Nat.succ_add_eq_add_succ f l))))⟩
def GK(p:Array Nat)(k:Nat)(o:Up key p k):∀(f l r:Nat),l<=r->r<=k->r-l<=f->(∀i,i<l->kp key p i<=kp key p k)->(∀i,r<=i->i<k->kp key p k<kp key p i)->
  let m:=ev (cK key) (kas_place p k f l r);m<=k/\(∀i,i<m->kp key p i<=kp key p k)/\(∀i,m<=i->i<k->kp key p k<kp key p i):=by
 intro zl
 induction zl with
 |zero=>
  intro l r j b h d hb;have:l=r:=iW j (Nat.le_of_sub_eq_zero (Nat.le_zero.mp h));subst this;exact⟨b,d,hb⟩
 |succ f n=>
  intro l r j b h d hb;unfold kas_place;by_cases a:l≥r
  .rw [if_pos a];have:l=r:=(iW (cD λc=>bx (fL _ _) (AN aE (AN aI aA)) (AN aI aE) (aH j c) rfl) (cD λc=>bx (fL _ _) (AN aI (AN aE aA)) (AN aE aI) (aH a c) rfl));subst this;exact⟨b,d,hb⟩
  .rw [if_neg a];refine qs (mid f (bK a) h) λm1 m2 m3 m4=> ?_;simp only [ev];generalize (l+r)/2=mm at m1 m2 m3 m4 ⊢;by_cases g:key (p.getD k 0)<key (p.getD mm 0)
   .have e:cK key (p.getD k 0) (p.getD mm 0)=true:=decide_eq_true g;rw [e];simp only [if_true];refine n l mm m1 (zt (zs m2) b) m3 d λi hi q=> ?_;have:=o mm i hi q;unfold kp at this ⊢;exact zt g this
   .have e:cK key (p.getD k 0) (p.getD mm 0)=false:=decide_eq_false (Nat.not_lt.mpr (cD g));rw [e];simp only [rB,if_false];refine n (mm+1) r m2 b m4 (λi hi=> ?_) hb;have:=o i mm (cD λc=>bx (fL _ _) (AN (AN aI aA) (AN aE aA)) (AN (AN aE aA) aI) (aH hi c) rfl) (zt m2 b);unfold kp at this ⊢;exact zt this (cD g)
def NN(m:Nat):∀(f:Nat) (p:Array Nat) (k:Nat),k+f=m->m<=p.size->Up key p k->let r:=ev (cK key) (kas_bin f p k);r.size=p.size/\r.Perm p/\Up key r m:=by
 intro zl
 induction zl with
 |zero=>
  intro p k u t h;exact⟨rfl,Array.Perm.refl _,by cases u;exact h⟩
 |succ f E=>
  intro p k u t h;have q:=(Nat.succ_add_eq_add_succ k f).trans u;have x:=zt (zt (Nat.le_add_right _ f) (uD q)) t;dsimp only [kas_bin];simp only [mZ];refine fD (GK key p k h k 0 k (gP _) (bP _) (bP _) (λi hi=>absurd hi (Nat.not_lt_zero _)) (λi g a=>absurd a (Nat.not_lt.mpr g))) λv C A=> ?_;generalize ev (cK key) (kas_place p k k 0 k)=l at v C A;have sz:(bubble p k (k-l)).size=p.size:=bubble_size _ _ _;have hb:∀j,kp key (bubble p k (k-l)) j=if j=l then kp key p k else if l<j/\j<=k then kp key p (j-1)else kp key p j:=λj=>by
   have:=DE key (d:=k-l) x (Nat.sub_le _ _) j;rw [Nat.sub_sub_self v]at this;exact this
  have y:Up key (bubble p k (k-l)) (k+1):=λi j c b=>by
   have b:=xx b;rw [hb,hb];by_cases g:i=l
   .rw [if_pos g];by_cases a:j=l
    .rw [if_pos a];exact bP _
    .have e:=Nat.lt_of_le_of_ne (g▸c) (Ne.symm a);rw [if_neg a,if_pos ⟨e,b⟩];exact xy (A (j-1) (Ds e) (pG (Nat.sub_lt (Az e) Nat.one_pos) b))
   .rw [if_neg g];by_cases o:l<i
    .have e:=pG o c;rw [if_pos ⟨o,zt c b⟩,if_neg (zg e),if_pos ⟨e,b⟩];exact h (i-1) (j-1) (Nat.sub_le_sub_right c 1) (pG (Nat.sub_lt (Az e) Nat.one_pos) b)
    .have w:=Nat.lt_of_le_of_ne (cD o) g;rw [if_neg (λz=>o z.1)];by_cases a:j=l
     .rw [if_pos a];exact C i w
     .rw [if_neg a];by_cases n:l<j
      .rw [if_pos ⟨n,b⟩];exact h i (j-1) (Ds (gV w n)) (pG (Nat.sub_lt (Az n) Nat.one_pos) b)
      .rw [if_neg (λz=>n z.1)];exact h i j c (pG (Nat.lt_of_le_of_ne (cD n) a) v)
  refine fD (E (bubble p k (k-l)) (k+1) q (zt t (zf sz)) y) λb1 b2 D=> ?_;exact⟨b1.trans sz,b2.trans (bubble_perm _ _ _),D⟩
def JW{n:Nat}(g:1<=n):let p:=ev (cK key) (kas_sort n);p.size=n/\p.toList.Perm (List.range n)/\Up key p n:=by
 dsimp only [kas_sort];simp only [mZ];obtain ⟨c,d,e,b,a⟩:=GJ key (p:=List.toArray (List.range n)) g (by simp);generalize ev (cK key) (kas_count n (List.toArray (List.range n)))=r at c d e b a;have sz:r.2.size=n:=by rw [c];simp
 have pm:r.2.toList.Perm (List.range n):=by have:=Array.perm_iff_toList_perm.mp d;simpa using this
 split
 .have h:=Nat.max_eq_left e;rw [h];refine fD (NN key n (n-r.1) r.2 r.1 (EL b) (zf sz) a) λb1 b2 f=> ?_;exact⟨b1.trans sz,(Array.perm_iff_toList_perm.mp b2).trans pm,f⟩
 .simp only [ev];have:r.1=n:=by lia
  exact⟨sz,pm,this▸a⟩
end
def zQ{c:Type}(n:Nat)(P:c->Prop):KasT c->Prop
 | .ret a=>P a
 | .ask i j k=>i<n/\j<n/\∀b,zQ n P (k b)
theorem zQ.bind{d e:Type}{n:Nat}{P:d->Prop}{R:e->Prop}{f:d->KasT e}:∀{t:KasT d},zQ n P t->(∀a,P a->zQ n R (f a))->zQ n R (t.bind f)
 | .ret a,h,c=>c a h
 | .ask _ _ _,h,c=>⟨h.1,h.2.1,λb=>zQ.bind (h.2.2 b) c⟩
theorem zp{b:Type}{cmp:Nat->Nat->(Bool->Shared->Prop)->Shared->Prop}{c:Nat->Nat->Bool}{s:Shared}{n:Nat}(d:∀i j C,i<n->j<n->C (c i j) s->cmp i j C s){P:b->Prop}{G:b->Shared->Prop}:
  ∀t:KasT b,zQ n P t->G (ev c t) s->t.kasWp cmp G s
 | .ret _,_,h=>h
 | .ask i j k,a,h=>d i j _ a.1 a.2.1 (zp d (k (c i j)) (a.2.2 _) h)
section
variable{n:Nat}
def Lo(n:Nat)(p:Array Nat):Prop:=0<n/\∀x ∈ p,x<n
def Lo.get{p:Array Nat}(h:Lo n p)(i:Nat):p.getD i 0<n:=by
 dsimp only [Array.getD];split
 .exact h.2 _ (Array.getElem_mem _)
 .exact h.1
def Lo.perm{p q:Array Nat}(h:Lo n p)(e:q.Perm p):Lo n q:=⟨h.1,λx a=>h.2 x (e.mem_iff.mp a)⟩
def Lo.rev{p:Array Nat}(h:Lo n p)(i j:Nat):Lo n (kas_rev p i j):=h.perm (mirror_perm _ _ _ _)
def Cf{p:Array Nat}(h:Lo n p):∀f m,zQ n (λc=>True) (kas_asc p f m):=by
 intro zl
 induction zl with
 |zero=>
  intro m;exact trivial
 |succ f a=>
  intro m;exact⟨h.get _,h.get _,λb=>by cases b<;>first |exact trivial |exact a (m+1)⟩
def GO:∀f (p:Array Nat) m q,Lo n p->zQ n (λr=>Lo n r.1) (kas_desc f p m q):=by
 intro zl
 induction zl with
 |zero=>
  intro p m q h;exact h
 |succ f a=>
  intro p m q h;exact⟨h.get _,h.get _,λb=>by
   cases b
   .refine⟨h.get _,h.get _,λd=> ?_⟩;cases d
    .exact a p (m+1) (q+1) h
    .exact h
   .show zQ n _ (if q>0 then _ else _);split
    .exact a _ _ _ (h.rev _ _)
    .exact a _ _ _ h⟩
def vo{p:Array Nat}(h:Lo n p)(m k:Nat):zQ n (λr=>Lo n r.2) (kas_tail3 m k p):=(Cf (h.rev _ _) _ _).bind λa a=>h.rev _ _
def pR{p:Array Nat}(h:Lo n p)(m k:Nat):zQ n (λr=>Lo n r.2) (kas_descPart m k p):=by
 refine(GO _ _ _ _ h).bind λr a=> ?_;split
 .exact vo (a.rev _ _) _ _
 .exact vo a _ _
def DG{p:Array Nat}(h:Lo n p)(k:Nat):zQ n (λr=>Lo n r.2) (kas_count k p):=by
 refine(Cf h _ _).bind λr a=> ?_;split
 .exact h
 .split
  .refine⟨h.get _,h.get _,λb=> ?_⟩;cases b
   .exact pR (h.rev _ _) _ _
   .exact h
  .exact pR h _ _
def DH{p:Array Nat}(h:Lo n p)(k:Nat):∀f l r,zQ n (λc=>True) (kas_place p k f l r):=by
 intro zl
 induction zl with
 |zero=>
  intro _ _;exact trivial
 |succ f a=>
  intro l r;dsimp only [kas_place];split
  .trivial
  .refine⟨h.get _,h.get _,λb=> ?_⟩;cases b
   .exact a _ _
   .exact a _ _
def JX:∀f (p:Array Nat) k,Lo n p->zQ n (λa=>True) (kas_bin f p k):=by
 intro zl
 induction zl with
 |zero=>
  intro _ _ _;exact trivial
 |succ f b=>
  intro p k h;exact(DH h k k 0 k).bind λa a=>b _ _ (h.perm (bubble_perm _ _ _))
def GP(b:0<n):zQ n (λd=>True) (kas_sort n):=by
 refine(DG ⟨b,λx a=>by simpa using a⟩ _).bind λr c=> ?_;split
 .exact JX _ _ _ c
 .trivial
end
def e_(a b:Int×Int):Bool:= !dj b a
def ko(a b:Int×Int):e_ a b=true ↔ a.1<b.1\/(a.1=b.1/\a.2<b.2):=by
 have:=c_ b a;dsimp only [e_];rw [C6,<-Bool.not_eq_true,this];constructor
 .intro h;exact(Int.lt_trichotomy a.1 b.1).elim .inl λp=>p.elim (λp=> .inr ⟨p,Int.not_le.mp λq=>h (.inr ⟨p.symm,q⟩)⟩) λp=>absurd (.inl p) h
 .rintro (p |p) (q |q)
  .exact Int.lt_asymm p q
  .exact absurd p (q.1▸AB _)
  .exact absurd q (p.1▸AB _)
  .exact absurd p.2 (Int.not_lt.mpr q.2)
def GQ{a b:Int×Int}(h: ¬a.1=b.1):decide (a.1<b.1)=e_ a b:=by
 cases q:e_ a b with
 |true=>exact decide_eq_true (((ko a b).mp q).elim id λz=>absurd z.1 h)
 |false=>exact decide_eq_false λz=>ff (q.symm.trans ((ko a b).mpr (.inl z)))
def xK{a b:Int×Int}(h:a.1=b.1):decide (a.2<b.2)=e_ a b:=by
 cases q:e_ a b with
 |true=>exact decide_eq_true (((ko a b).mp q).elim (λz=>absurd z (h▸AB _)) (·.2))
 |false=>exact decide_eq_false λz=>ff (q.symm.trans ((ko a b).mpr (.inr ⟨h,z⟩)))
def AO(a:Int×Int):e_ a a=false:=by rw [<-xK rfl];exact decide_eq_false (AB _)
def ua{a b x:Int×Int}(h:dj a b=true)(c:e_ x a=true):e_ x b=true:=by
 cases q:dj b x with
 |false=>show(!dj b x)=true;rw [q];rfl
 |true=>
  have c:(!dj a x)=true:=c;rw [jS a b x h q]at c;exact ff c
def rank(rs:List (Int×Int))(r:Int×Int):Nat:=rs.countP (λx=>e_ x r)
def Cg{rs:List (Int×Int)}{a b:Int×Int}(h:dj a b=true):rank rs a<=rank rs b:=List.countP_mono_left λc c d=>ua h d
def Ci{a b:Int×Int}(h:e_ a b=true):∀{rs:List (Int×Int)},a ∈ rs->rank rs a<rank rs b:=by
 have f:=((ko a b).mp h).elim (λp=>(c_ a b).mpr (.inl p)) λp=>(c_ a b).mpr (.inr ⟨p.1,uz p.2⟩);intro rs
 induction rs with
 |nil=>intro c;cases c
 |cons r rs d=>
  intro c;have g:List.countP (λx=>e_ x a) rs<=List.countP (λx=>e_ x b) rs:=Cg f;show List.countP _ (r::rs)<List.countP _ (r::rs);rw [List.countP_cons,List.countP_cons];refine a_ (List.mem_cons.mp c) (λe=> ?_) λc=> ?_
  .rw [<-e,AO,h];exact Nat.lt_succ_of_le g
  .have d:=d c
   cases q:e_ r a with
   |true=>rw [ua f q];exact Nat.succ_lt_succ d
   |false=>exact pG d (Nat.le_add_right _ _)
def GR{rs:List (Int×Int)}{a b:Int×Int}(c:a ∈ rs):decide (rank rs a<rank rs b)=e_ a b:=by
 cases h:e_ a b with
 |true=>exact decide_eq_true (Ci h c)
 |false=>
  have:dj b a=true:=by unfold e_ at h;simpa using h
  exact decide_eq_false (Nat.not_lt.mpr (Cg this))
def DI{rs:List (Int×Int)}(t:1<=rs.length):
  (ev (cK λi=>rank rs (rs.getD i (0,0))) (kas_sort rs.length)).toList.map (λi=>rs.getD i (0,0))=rs.mergeSort dj/\∀x ∈ ev (cK λi=>rank rs (rs.getD i (0,0))) (kas_sort rs.length),x<rs.length:=by
 refine fD (JW (λi=>rank rs (rs.getD i (0,0))) t) λm e l=> ?_;generalize ev (cK λi=>rank rs (rs.getD i (0,0))) (kas_sort rs.length)=p at m e l;have c:∀x ∈ p,x<rs.length:=λx q=>by simpa using e.mem_iff.mp (Array.mem_toList_iff.mpr q)
 refine⟨?_,c⟩;have perm:(p.toList.map λi=>rs.getD i (0,0)).Perm rs:=by
  have:=e.map λi=>rs.getD i (0,0);refine this.trans (List.Perm.of_eq ?_);apply List.ext_getElem
  .simp
  .intro i d f;simp at d;simp [d]
 refine List.Perm.eq_of_pairwise (λa b u u=>tn a b) ?_ (CO jS lP rs) (perm.trans (Ae rs dj).symm);rw [List.pairwise_map,List.pairwise_iff_getElem];intro i j hi w o;have d:i<p.size:=by simpa using hi
 have f:j<p.size:=by simpa using w
 have:=l i j (xy o) (zt f (ze m));unfold kp at this;rw [show p.getD i 0=p.toList[i] by simp [Array.getD,d],show p.getD j 0=p.toList[j] by simp [Array.getD,f]]at this
 cases h:dj (rs.getD p.toList[i] (0,0)) (rs.getD p.toList[j] (0,0))with
 |true=>rfl
 |false=>
  have g:e_ (rs.getD p.toList[j] (0,0)) (rs.getD p.toList[i] (0,0))=true:=by unfold e_;rw [h];rfl
  have k:p.toList[j]<rs.length:=c _ (Array.mem_toList_iff.mp (List.getElem_mem _));have v:=Ci g (by rw [Gm,gO k];exact List.getElem_mem _);exact absurd this (Nat.not_le.mpr v)
end
section
open PySem.Calls PyProof.Rows PySem.SeqAt
noncomputable def qH(r:Int×Int):V:= .tup [.int r.1,.int r.2,.tup []]
def DJ{xs:List V}{rs:List (Int×Int)}(h:rowsOf xs=some rs):xs=rs.map qH:=by
 by_cases e:xs=(xs.map yF).map qH
 .cases (if_pos e).symm.trans h;exact e
 .exact oo ((if_neg e).symm.trans h)
section
variable{ρ:dM}{A:Around}{E:Value->Shared->Prop}{s:Shared}{prog:Program}{w:World}
@[elab_as_elim] def AP{h:Heap}{r:Int×Int}{v:Value}{P:Value->Prop}(x:VR ρ h (qH r) v)(k:∀a vs n t u y,h.get? a=some (gZ vs n)->vs.toList=[.int r.1 t,.int r.2 u,y]->VR ρ h (.tup []) y->P (.ref a)):P v:=
 VR.qA x λa vs n g q=>cH.fO (P:=λl=>vs.toList=l->P (.ref a)) q (λb b j q=>cH.fO (P:=λl=>vs.toList=_::l->P (.ref a)) q λb b m q=>cH.fO q λy b f q=>cH.jL q
  (VR.gC j λt=>VR.gC m λu e=>k a vs n t u y g e f)) rfl
def NO{r b:Int×Int}{v k:Value}{C:Bool->Shared->Prop}(D:A.units+20<9000)(H:VR ρ s.heap (qH r) v)(o:VR ρ s.heap (qH b) k)(h:C (e_ r b) s):
  wpAny (model prog w) A (keyLt' (tuples' true) v k) C E s:=by
 refine AP H λa vs n t u y g e hy=>AP o λN m J L U I g' p l=> ?_;have z:vs.size=3:=by rw [<-ly,e];rfl
 have G:m.size=3:=by rw [<-ly,p];rfl
 refine kat_lt g rfl g' rfl ?_;rw [e,p,z,G];show KatLex prog w A true (decide (3<3)) C [(_,_),(_,_),(_,_)] 0 s;refine kat_cons (wpAny_eqBool_int (kat_go (λf=>kat_yes ?_) (λf=>kat_no ?_)))
 .have f:r.1=b.1:=by simpa using f
  refine kat_cons (wpAny_eqBool_int (kat_go (λj=>kat_yes ?_) (λj=>kat_no ?_)))
  .have j:r.2=b.2:=by simpa using j
   have e0:=AQ 4 (.tup []) (.tup []) y I true A s rfl (zt (zr 16) D) hy l rfl;refine kat_cons (e0 prog w _ _ (kat_go (λM=>kat_yes (kat_nil ?_)) (λq=>by cases q)));have:e_ r b=false:=by rw [<-xK f,j];exact decide_eq_false (AB _)
   rw [this]at h;exact h
  .have j: ¬r.2=b.2:=by simpa using j
   refine kat_one _ _ (PySem.P.lt_int ?_);have:decide (r.2<b.2)=e_ r b:=xK f;show C _ s;rw [this];exact h
 .have f: ¬r.1=b.1:=by simpa using f
  have:decide (r.1<b.1)=e_ r b:=GQ f;refine kat_lt_int ?_;rw [this];exact h
def DK{h:Heap}:∀{rs:List (Int×Int)} {vs:List Value},cH ρ h (rs.map qH) vs->∃b,KatTups h vs b/\b.length=rs.length/\∀v ∈ b,∃i t,v= .int i t:=by
 intro zl
 induction zl with
 |nil=>
  intro _ x;exact cH.jL x ⟨[],KatTups.nil,rfl,λf h=>nomatch h⟩
 |cons r rs l=>
  intro _ x;exact cH.fO x λf f x q=>AP x λa vs n t u y g e f=>(l q).elim λb k=>
   ⟨.int r.1 t::b,KatTups.cons g rfl rfl (by rw [<-nh,e];rfl) k.1,congrArg (·+1) k.2.1,λv j=>(List.mem_cons.mp j).elim (λe=>⟨_,_,e⟩) (k.2.2 v)⟩
def Cj(rs:List (Int×Int))(vs:List Value)(out:Array Value):Prop:=
 ∃p:List Nat,out.toList=p.map (λi=>vs.getD i .none)/\p.map (λi=>rs.getD i (0,0))=rs.mergeSort dj/\∀x ∈ p,x<rs.length
def Cj.Qy{rs:List (Int×Int)}{vs:List Value}{out:Array Value}{h:Heap}(x:Cj rs vs out)(f:cH ρ h (rs.map qH) vs):cH ρ h ((rs.mergeSort dj).map qH) out.toList:=by
 refine eG x λp e1 e2 a=> ?_;rw [e1,<-e2];clear e1 e2
 induction p with
 |nil=>exact .nil
 |cons i p e=>
  have hi:=a i cW;refine aB (f.get (i:=i) (v:=qH rs[i]) (by simp [hi])) λw b v=> ?_;refine .cons ?_ (e λx g=>a x (gh _ g));dsimp only;rw [Gm,Gm,b,gO hi];exact v
def GS{h:Heap}{a:Addr}{xs:Array Value}{n:Nat}(b:h.get? a=some (seqObj "list" xs n))(f:Obj->Obj):bw h (h.update a f):=λy vs m g=>by
 rw [Heap.get?_update_ne _ _ _ _ (λz=>by rw [z,b]at g;exact absurd (congrArg Obj.cls (fE g)) (by dsimp only [gZ];exact(by decide)))];exact g
def rV(h:Heap)(o:Obj):bw h (h.push o):=λa a a g=>Heap.get?_push_of_some _ g
def uc{a:Addr}{vs:List Value}{rs:List (Int×Int)}{n:Nat}{P:PySem.Fin->Shared->Prop}(hu:A.units+20<9000)(u:s.heap.get? a=some (seqObj "list" vs.toArray n))(U:cH ρ s.heap (rs.map qH) vs)(y:1<=vs.length)(f:vs.length<64)
  (h:∀out:Array Value,Cj rs vs out->P (.done (.ret .none)) {s with heap:=sortedHeap s.heap a vs out}):
  wpAny (model prog w) A (Builtin.«list.sort» ⟨[.ref a],[]⟩) P E s:=by
 have bW:vs.length=rs.length:=by rw [U.length,bN]
 have ha:=Heap.lt_size u;obtain ⟨e1,D⟩:∃e1,(s.heap.update a (Obj.mapSeq λb=>(#[]:Array Value))).get? a=some (seqObj "list" #[] e1):=⟨_,get?_update_seq u λb=>#[]⟩;have tk:bw s.heap (((s.heap.update a (Obj.mapSeq λb=>(#[]:Array Value))).push (seqObj "tuple" vs.toArray 0)).push (seqObj "list" #[] 0)):=((GS u _).trans (rV _ _)).trans (rV _ _);have o:=U.mono (bS _) tk;have k:(((s.heap.update a (Obj.mapSeq λb=>(#[]:Array Value))).push (seqObj "tuple" vs.toArray 0)).push (seqObj "list" #[] 0)).get? a=some (seqObj "list" #[] e1):=Heap.get?_push_of_some _ (Heap.get?_push_of_some _ D);rw [list_sort_plain];refine wpAny_bind (listItems_at u rfl ?_);refine wpAny_bind (listUpdate_at u rfl ?_ (by rw [List.size_toArray,sizeLine_eq];exact zt (zs f) (zr 16777152)) (gP _));refine wpAny_bind (seqEpoch_at D rfl ?_);refine wpAny_bind (wpAny_newTuple ?_ (by show vs.length<=_;rw [sizeLine_eq];exact zt (zs f) (zr 16777152)));refine wpAny_bind (wpAny_newList ?_ (gP _));refine wpAny_holding ?_;show wpAny (model prog w) A _ P E {s with heap:=((s.heap.update a (Obj.mapSeq λb=>(#[]:Array Value))).push (seqObj "tuple" vs.toArray 0)).push (seqObj "list" #[] 0)};dsimp only;by_cases g:vs.toArray.size<2
 .rw [if_pos g,if_pos g];have hn:=iW (xx g) y;refine wpAny_bind (wpAny_pure ?_);dsimp only [StateT.run_pure];refine wpAny_bind (wpAny_pure ?_);dsimp only;refine wpAny_bind (seqEpoch_at k rfl ?_);refine wpAny_bind (listUpdate_at k rfl ?_ (gP _) (by rw [Array.size_map];show(vs.toArray.zip vs.toArray).size<=_;rw [sizeLine_eq];simp;exact zt (zs f) (zr 16777153)));simp only [bne_self_eq_false,rB,if_false];refine wpAny_pure (h _ ?_);refine ez (List.length_eq_one_iff.mp hn) λv q=> ?_;subst q;refine ez (List.length_eq_one_iff.mp bW.symm) λr q=> ?_;subst q;refine⟨[0],?_,by simp,by simp⟩;rw [show arrOf (SortSt.mk' general' ([v].toArray.zip [v].toArray) #[] 7 none)=[v].toArray.zip [v].toArray from rfl];simp
 .rw [if_neg g,if_neg g];refine eG (DK o) λfs k1 k2 k3=> ?_;refine wpAny_bind (kat_kind k1 (zt (zt y (ze bW)) (zf k2)) (λv hv=>by obtain ⟨i,t,rfl⟩:=k3 v hv;exact .now) rfl ?_);refine cR (DI (zt y (ze bW))) λg1 g2=> ?_;refine wpAny_bind (wpAny_mono (kat_run
   (G:=λp m=>m={s with heap:=((s.heap.update a (Obj.mapSeq λb=>(#[]:Array Value))).push (seqObj "tuple" vs.toArray 0)).push (seqObj "list" #[] 0)}/\p.toList.map (λi=>rs.getD i (0,0))=rs.mergeSort dj/\∀x ∈ p,x<rs.length)
   (Q:=λl m=>m={s with heap:=((s.heap.update a (Obj.mapSeq λb=>(#[]:Array Value))).push (seqObj "tuple" vs.toArray 0)).push (seqObj "list" #[] 0)}/\∃p:Array Nat,p.size=vs.length/\arrOf l=p.map (kas_item (vs.toArray.zip vs.toArray))/\failedOf l=none/\p.toList.map (λi=>rs.getD i (0,0))=rs.mergeSort dj/\∀x ∈ p,x<rs.length)
   rfl (by simp at g;exact g) f (λp l m a1 a2 a3 N=>⟨N.1,p,a1,a2,a3,N.2⟩) (zp (n:=vs.length) (λi j C hi hj I=> ?_) _ (GP y) ⟨rfl,by rw [bW];exact g1,by rw [bW];exact g2⟩)) ?_ λb b e=>e)
  .have z:i<rs.length:=(zt hi (ze bW));have hj':j<rs.length:=(zt hj (ze bW));refine aB (o.get (i:=i) (v:=qH rs[i]) (by simp [z])) λwi ei vi=> ?_;refine aB (o.get (i:=j) (v:=qH rs[j]) (by simp [hj'])) λwj ej Y=> ?_;dsimp only [kas_ask];rw [Gm,Gm,ei,ej];refine NO hu vi Y ?_;have:cK (λi=>rank rs (rs.getD i (0,0))) i j=e_ rs[i] rs[j]:=by
    have e1:rs.getD i (0,0)=rs[i]:=by simp [z]
    have e2:rs.getD j (0,0)=rs[j]:=by simp [hj']
    show decide (rank rs (rs.getD i (0,0))<rank rs (rs.getD j (0,0)))=_;rw [GR (by rw [e1];exact List.getElem_mem _),e1,e2]
   rw [this]at I;exact I
  rintro ⟨⟨⟩,l⟩ m ⟨rfl,p,hp,J,hf,L⟩
  dsimp only;have H:=kat_snds rfl J;have M:(List.toArray (p.toList.map λi=>vs.getD i Value.none)).size=vs.length:=by rw [List.size_toArray,bN,ly,hp]
  rw [H];refine wpAny_bind (seqEpoch_at k rfl ?_);refine wpAny_bind (listUpdate_at k rfl ?_ (gP _) (iA (uD M) (by rw [sizeLine_eq];exact zt (zs f) (zr 16777153))));rw [hf];simp only [bne_self_eq_false,rB,if_false];exact wpAny_pure (h _ ⟨p.toList,(dw _),L.1,λx hx=>L.2 x (Array.mem_toList_iff.mp hx)⟩)
def zq{l:Addr}{vs:List Value}{rs:List (Int×Int)}{Q:Value->Shared->Prop}(k:A.units+30<9000)(g:s.heap.IsList l vs.toArray)(j:cH ρ s.heap (rs.map qH) vs)(n:1<=vs.length)(a:vs.length<64)
  (h:∀out:Array Value,Cj rs vs out->Q (.ref (s.heap.objs.size+1)) {s with heap:=sortedAll s.heap vs out}):
  wpAny (model prog w) A (call (.builtin "sorted") [.ref l]) Q E s:=by
 refine Calls.call_function_entry kind_sorted plain_sorted entry_sorted (args_sorted1 _) ?_;unfold Builtin.«sorted»;refine wpAny_bind (wpAny_pure ?_);refine wpAny_bind (collect_list g ?_ (by rw [sizeLine_eq];exact zt (zs a) (zr 16777152)));refine wpAny_bind (wpAny_newList ?_ (by rw [sizeLine_eq];exact zt (zs a) (zr 16777152)));have e:((s.heap.push (seqObj "list" #[] 0)).update s.heap.objs.size (Obj.mapSeq (·++vs.toArray))).objs.size=s.heap.objs.size+1:=by
  rw [Heap.size_update,size_push']
 have b:(((s.heap.push (seqObj "list" #[] 0)).update s.heap.objs.size (Obj.mapSeq (·++vs.toArray))).push (seqObj "list" vs.toArray 0)).get? (s.heap.objs.size+1)=some (seqObj "list" vs.toArray 0):=by
  rw [<-e];exact Heap.get?_push_size _ rfl
 have m:bw s.heap (((s.heap.push (seqObj "list" #[] 0)).update s.heap.objs.size (Obj.mapSeq (·++vs.toArray))).push (seqObj "list" vs.toArray 0)):=((rV _ _).trans (GS (Heap.get?_push_size _ rfl) _)).trans (rV _ _);show wpAny _ _ _ _ _ {s with heap:=((s.heap.push (seqObj "list" #[] 0)).update s.heap.objs.size (Obj.mapSeq (·++vs.toArray))).push (seqObj "list" vs.toArray 0)};rw [e];refine wpAny_bind (wpAny_holding (wpAny_call_entry slot_list_sort ⟨_,b,rfl⟩ entry_list_sort ?body (args_list_sort _)))
 case body=>
  refine uc
   (by show A.units+1+1+20<9000;exact zt (zr 8) k) b (j.mono (bS _) m) n a λout f=>⟨_,rfl,wpAny_pure ⟨_,rfl,h out f⟩⟩
end
section
variable{c:Cfg}{d:Nat}{ρ:dM}{st:St}{A:Around}{s:Shared}{K:KV}{Q:Value->Shared->Prop}{E:Value->Shared->Prop}
def GU{h:Heap}:∀{a:List Int} {vs:List Value},cH ρ h (a.map V.int) vs->IntsAre vs a:=by
 intro zl
 induction zl with
 |nil=>
  intro _ x;exact cH.jL x .nil
 |cons i a e=>
  intro _ x;exact cH.fO x λb b x r=>VR.gC x λb=> .cons _ _ (e r)
def GV{h:Heap}{a:List Int}{vs:List Value}(x:IntsAre vs a):cH ρ h (a.map V.int) vs:=
 IntsAre.rec .nil (by intros;exact .cons (.int _ _) (by assumption)) x
def zv{a:Nat}{xs ys:List V}{w:Value}(M:lA d A)(v:Own c ρ st s.heap)(N:VR ρ s.heap (.ref a) w)(ha:st[a]? =some (.list xs))(f:pq xs=some ys)(h:K (.ref st.length) (st++ [.list ys]))(J:Kn c ρ s K Q):
  wpAny (model pw c.w) A (call (.builtin "sorted") [w]) Q E s:=by
 refine aY (v.list ha N) λp vs n hp l D g r sz hb=> ?_;subst D;have G:s.heap.IsList p.1 vs.toList.toArray:=by rw [Array.toArray_toList];exact bB g
 have bW:=r.length;dsimp only [pq]at f;split at f
 .cases f
 rename_i j;have fin:∀(out:Array Value),ys.length<=big->(∀h',bw s.heap h'->cH (ρ++ [(s.heap.objs.size+1,s.heap.objs.size+1)]) h' ys out.toList)->Q (.ref (s.heap.objs.size+1)) {s with heap:=sortedAll s.heap vs.toList out}:=λout U Y=>by
  refine ez (sortedAll_at s.heap vs.toList out) λe he=> ?_;have k:∀b o,s.heap.get? b=some o->(sortedAll s.heap vs.toList out).get? b=some o:=λl l=>sortedAll_old;have q:bw s.heap (sortedAll s.heap vs.toList out):=λy vs n e=>k _ _ e;have fr:s.heap.get? (s.heap.objs.size+1)=none:=Heap.get?_none_of_le (Nat.le_succ _);refine cR (v.new (p:=(s.heap.objs.size+1,s.heap.objs.size+1)) (o:= .list ys) k fr fr ⟨rfl,U,out,e,he,Y _ q⟩) λo' p'=> ?_;exact J _ _ _ _ s.toks _ h p' o' (eT v.len)
 have t:=(zt (za (ze bW) 1) (za (cD j) 1))
 cases hi:gK xs with
 |some H=>
  rw [hi]at f;cases f;have x:=vq hi;subst x;refine sorted_ints G (GU r) t λout I a1 a2 L=>fin out (by simp at bW j ⊢;simp only [big];exact zt j (zr 999937)) λh' q=> ?_;have:H.mergeSort=I:=List.Perm.eq_of_pairwise (λa b l l m u=>x_ m u) (by
   have:=CO (le:=λ(a b:Int)=>decide (a<=b)) (λa b c m u=>by simp at*;exact Int.not_lt.mp λl=>dJ (Pn _ _ _) (AI bH (AI jr (AI D3 ck))) (AI jr (AI D3 bH)) (bE m (bE u l)) rfl) (λa b=>by simp;lia) H;simpa using this) L ((Ae _ _).trans a2.symm)
  rw [this];exact GV a1
 |none=>
  rw [hi]at f;dsimp only at f
  cases hr:rowsOf xs with
  |none=>rw [hr]at f;cases f
  |some rs=>
   rw [hr]at f;cases f;have x:=DJ hr;subst x;have m:1<=vs.toList.length:=by
    refine a_ (Nat.eq_zero_or_pos rs.length) (λz=> ?_) λz=> ?_
    .rw [List.length_eq_zero_iff.mp z]at hi;cases hi
    .simp at bW ⊢;exact zt z (zf bW)
   refine zq (by have:=M.units;exact zt (zt (za (zr _) 31) (za this 31)) (bI rfl)) G r m t λout C=>fin out (by simp at bW j ⊢;simp only [big];exact zt j (zr 999937)) λh' q=> ?_;exact C.Qy (r.mono (eE _ _) q)
end
end
section
open PySem.Calls PyProof.Rows
section
variable{c:Cfg}{d:Nat}{ρ:dM}{st:St}{A:Around}{s:Shared}{K:KV}{Q:Value->Shared->Prop}{E:Value->Shared->Prop}
set_option tactic.hygienic true in
def GL{h:Heap}:∀{n:Nat} {a:V} {w:Value},jP n a=true->VR ρ h a w->KR h n a w:=by
 intro n
 induction n with
 |zero=>
  intro a w k x;cases a<;>first |exact ff k |skip
  .exact VR.gC x λt=>KR.Si
  .exact VR.AF x λt=>KR.By (of_decide_eq_true k)
 |succ n f=>
  intro a w k x;cases a<;>first |exact ff k |skip
  .exact VR.gC x λt=>KR.Si
  .exact VR.AF x λt=>KR.By (of_decide_eq_true k)
  .rename_i l;refine VR.qA x λy vs m g r=>⟨y,vs,m,rfl,g,?_⟩;clear g x;generalize vs.toList=ws at r
   induction l generalizing ws with
   |nil=>exact cH.jL r trivial
   |cons a l b=>
    exact kT k λk1 k2=>cH.fO r λw e p q=>⟨f k1 p,b k2 e q⟩
def Own.dU{a:Nat}{l:List V}{w:Value}(k:Own c ρ st s.heap)(n:VR ρ s.heap (.ref a) w){es:List (List V×V)}(b:st[a]? =some (.dict [])/\es=[]\/st[a]? =some (.dU es)):
  ∃p xs o,(st[a]? =some o/\Nk o=false)/\ρ[a]? =some p/\p.2=p.1/\w= .ref p.1/\es.length<=500/\s.heap.DictOfH (yV pw c.w) p.1 xs/\xs.map (·.1)=es.map (·.1)/\cH ρ s.heap (es.map (·.2)) (xs.map (·.2.2)):=by
 cases n with
 |ref _ p f=>
  rcases b with⟨b,rfl⟩ |b
  .refine tN (k.rep a _ p b f) λe hb j g h m=> ?_;have:j=[]:=by simpa using h
   subst this;refine iY g λo es u g g1 g2 t g4 t=> ?_;have:es.toList=[]:=List.length_eq_zero_iff.mp (by simpa using g4.length);exact⟨p,[],_,⟨b,rfl⟩,f,e,rfl,gP _,⟨o,es,u,g,g1,g2,this,λx q=>by simp at q,yU⟩,rfl,.nil⟩
  .refine tN (k.rep a _ p b f) λe hb xs g h m=> ?_;exact⟨p,xs,_,⟨b,rfl⟩,f,e,rfl,hb,g,h,m⟩
def Ce{h:Heap}{l:List V}{w:Value}(x:VR ρ h (.tup l) w):∃y,w= .ref y:=by cases x;exact⟨_,rfl⟩
def vn{xs:List (List V×Addr×Value)}{es:List (List V×V)}(e:xs.map (·.1)=es.map (·.1))(l:List V):(atKey xs l).isSome=es.any λe=>decide (e.1=l):=by
 dsimp only [atKey]
 induction xs generalizing es with
 |nil=>cases es with
  |nil=>rfl
  |cons _ _=>simp at e
 |cons x xs a=>cases es with
  |nil=>simp at e
  |cons y es=>
   simp only [cP,List.cons.injEq]at e;have:=a e.2;by_cases h:x.1=l
   .have h':=e.1▸h;simp [h,h']
   .have h':=e.1▸h;simp [h,h']at this ⊢;exact this
set_option tactic.hygienic true in
def GN{a:Nat}{l:List V}{w k:Value}(T:fT c)(L:lA d A)(j:Own c ρ st s.heap)(q:VR ρ s.heap (.tup l) k)(v:VR ρ s.heap (.ref a) w)
  (h:match st[a]? with
   |some (.dict [])=>jP 3 (.tup l)=true/\K (.bool false) st
   |some (.dU es)=>jP 3 (.tup l)=true/\K (.bool (es.any λe=>decide (e.1=l))) st
   |_=>False) (D:Kn c ρ s K Q):wpAny (model pw c.w) A (compareOp .In k w) Q E s:=by
 have b:∀es,(st[a]? =some (.dict [])/\es=[]\/st[a]? =some (.dU es))->jP 3 (.tup l)=true->K (.bool (es.any λe=>decide (e.1=l))) st->wpAny (model pw c.w) A (compareOp .In k w) Q E s:=λes f I h=>by
  refine nG (Own.dU (l:=l) j v f) λp xs o m u e n N g x U=> ?_;obtain ⟨J,M⟩:=m;subst n;have G:=GL I q;refine ez (Ce q) λy t=> ?_;subst t;have H:(p.1==sysModules)=false:=by
   refine ez T.sm λo' C=> ?_;rw [beq_eq_false_iff_ne];intro z;have:=(j.base a o p J u M).1;rw [z,C]at this;cases this
  refine wpAny_in_heap (by have:=L.units;show A.units+1+3<9000;exact zt (zt (za (zr _) 5) (za this 5)) (bI rfl)) G H g ?_;rw [vn x];exact D.now _ h j (.bool _)
 split at h
 .rename_i f;exact b [] (.inl ⟨f,rfl⟩) h.1 h.2
 .rename_i es f;exact b es (.inr f) h.1 h.2
 .exact h.elim
set_option tactic.hygienic true in
def DF{a:Nat}{l:List V}{v:V}{w G I:Value}{KS:St->Prop}{D:Unit->Shared->Prop}(hA:lA d A)(Y:Own c ρ st s.heap)(hw:VR ρ s.heap (.ref a) w)(N:VR ρ s.heap (.tup l) G)(hv:VR ρ s.heap v I)
  (h:match st[a]? with
   |some (.dict [])=>jP 3 (.tup l)=true/\KS (st.set a (.dU [(l,v)]))
   |some (.dU es)=>(jP 3 (.tup l)=true/\es.length<500/\(es.any λe=>decide (e.1=l))=false)/\KS (st.set a (.dU (es++ [(l,v)])))
   |_=>False)
  (hQ:∀u h' t,KS u->Post ρ ρ s.heap h'->Own c ρ u h'->D () {s with heap:=h',toks:=t}):wpAny (model pw c.w) A (setItem w G I) D E s:=by
 have f:∀es,(st[a]? =some (.dict [])/\es=[]\/st[a]? =some (.dU es))->jP 3 (.tup l)=true->es.length<500->(es.any λe=>decide (e.1=l))=false->KS (st.set a (.dU (es++ [(l,v)])))->wpAny (model pw c.w) A (setItem w G I) D E s:=λes k a0 hl J h=>by
  refine nG (Own.dU (l:=l) Y hw k) λp xs o L hp e M j g C r2=> ?_;obtain ⟨a3,nf⟩:=L;subst M;have kr:=GL a0 N;refine ez (Ce N) λy U=> ?_;subst U;have bW:xs.length=es.length:=by have:=congrArg List.length C;simpa using this
  refine wpAny_setItem_heap (by have:=hA.units;show A.units+1+3<9000;exact zt (zt (za (zr _) 5) (za this 5)) (bI rfl)) kr g (λh' g' hs=> ?_) (by rw [sizeLine_eq];exact zt (zt (ze bW) (zs hl)) (zr 16776716));have m:atKey xs l=none:=by
   have:=vn C l;rw [J]at this
   cases q:atKey xs l with
   |none=>rfl
   |some _=>rw [q]at this;cases this
  rw [storedH_new m]at g';have t:bw s.heap h':=λx vs n H=>by
   rw [hs.2 x (λz=>by
    refine jx g λo b4 ep g1 j g2 j=> ?_;rw [z,g1]at H;cases fE H;cases g2)]
   exact H
  obtain ⟨o',p'⟩:=Y.set (o':= .dU (es++ [(l,v)])) nf a3 hp (λb h1 j=>hs.2 b h1)
   ⟨e,by simp;exact cD λj=>bx (CC _) (AN (AN aE aA) (AN (.num 499) aA)) (AN (.num 500) aE) (aH hl j) rfl,_,g',by simp [C],by
    simp only [List.map_append,cP,qg];exact(r2.mono (bS _) t).append (.cons (hv.mono (bS _) t) .nil)⟩
  exact hQ _ h' _ h p' o'
 split at h
 .rename_i k;exact f [] (.inl ⟨k,rfl⟩) h.1 (by simp) rfl h.2
 .rename_i es k;exact f es (.inr k) h.1.1 h.1.2.1 h.1.2.2 h.2
 .exact h.elim
end
noncomputable def Tu:uF->Operator
 | .add=> .Add | .sub=> .Sub | .mod=> .Mod | .fdiv=> .FloorDiv | .mul=> .Mult | .band=> .BitAnd
noncomputable def Sj:Be->CmpOp
 | .eq=> .Eq | .ne=> .NotEq | .lt=> .Lt | .gt=> .Gt | .ge=> .GtE | .le=> .LtE
noncomputable def Tv:uF->Operator
 | .sub=> .Sub
 |_=> .Add
noncomputable def xM(a:Ctx)(x:Str)(y:String):Bool:=x==Str.ofString y&& !(x==("__debug__":Str))&&a.nm.lookup x==some .globalImplicit
noncomputable def mh(e:Expr):Bool:=e.ctorIdx != 7
noncomputable def fh:IL->Nat
 | .z=>0
 | .c _ r=>fh r+1
noncomputable def jM(a:Ctx)(i:Nat)(x:Str):Bool:=match a.sl[i]? with
 |some (some (y,_))=>x==y
 |_=>false
structure HE where
 fName:Str->Pos->Bool:=λzz zz=>false
 AR:Const->Nat->Pos->Bool:=λzz zz zz=>false
 AS:UnaryOp->Expr->Pos->Bool:=λzz zz zz=>false
 GW:Expr->Str->Pos->Bool:=λzz zz zz=>false
 GX:Expr->List Expr->List Keyword->Pos->Bool:=λzz zz zz zz=>false
 NP:Expr->Operator->Expr->Pos->Bool:=λzz zz zz zz=>false
 NQ:Expr->List CmpOp->List Expr->Pos->Bool:=λzz zz zz zz=>false
 NR:BoolOp->List Expr->Pos->Bool:=λzz zz zz=>false
 Sk:Expr->Expr->Expr->Pos->Bool:=λzz zz zz zz=>false
 NT:Expr->Expr->Pos->Bool:=λzz zz zz=>false
 NU:Option Expr->Option Expr->Option Expr->Pos->Bool:=λzz zz zz zz=>false
 NV:List Expr->Pos->Bool:=λzz zz=>false
 NW:List Expr->Nat->Pos->Bool:=λzz zz zz=>false
 GY:List (Option Expr)->List Expr->Pos->Bool:=λzz zz zz=>false
 GZ:Expr->List Comprehension->Scope->Pos->Bool:=λzz zz zz zz=>false
noncomputable def jk(q:HE):Expr->Bool
 | .Name x p=>q.fName x p
 | .Constant k n p=>q.AR k n p
 | .UnaryOp o x p=>q.AS o x p
 | .Attribute r x p=>q.GW r x p
 | .Call f a k p=>q.GX f a k p
 | .BinOp l o r p=>q.NP l o r p
 | .Compare l o r p=>q.NQ l o r p
 | .BoolOp o r p=>q.NR o r p
 | .IfExp t x y p=>q.Sk t x y p
 | .Subscript x y p=>q.NT x y p
 | .Slice x y z p=>q.NU x y z p
 | .List r p=>q.NV r p
 | .Tuple r k p=>q.NW r k p
 | .Dict k v p=>q.GY k v p
 | .ListComp r g s p=>q.GZ r g s p
 |_=>false
def dD{q:HE}{e:Expr}{P:Expr->Prop}(h:jk q e=true)
  (d:∀x p,q.fName x p=true->P (.Name x p))
  (b:∀k n p,q.AR k n p=true->P (.Constant k n p))
  (c:∀o x p,q.AS o x p=true->P (.UnaryOp o x p))
  (w:∀r x p,q.GW r x p=true->P (.Attribute r x p))
  (m:∀f a k p,q.GX f a k p=true->P (.Call f a k p))
  (C:∀l o r p,q.NP l o r p=true->P (.BinOp l o r p))
  (I:∀l o r p,q.NQ l o r p=true->P (.Compare l o r p))
  (G:∀o r p,q.NR o r p=true->P (.BoolOp o r p))
  (J:∀t x y p,q.Sk t x y p=true->P (.IfExp t x y p))
  (D:∀x y p,q.NT x y p=true->P (.Subscript x y p))
  (A:∀x y z p,q.NU x y z p=true->P (.Slice x y z p))
  (E:∀r p,q.NV r p=true->P (.List r p))
  (H:∀r k p,q.NW r k p=true->P (.Tuple r k p))
  (u:∀k v p,q.GY k v p=true->P (.Dict k v p))
  (j:∀r g s p,q.GZ r g s p=true->P (.ListComp r g s p)):P e:=by
 cases e<;>first |exact ff h |exact d _ _ h |exact b _ _ _ h |exact c _ _ _ h |exact w _ _ _ h |exact m _ _ _ _ h |exact C _ _ _ _ h |exact I _ _ _ _ h |exact G _ _ _ h |exact J _ _ _ _ h |exact D _ _ _ h |exact A _ _ _ _ h |exact E _ _ h |exact H _ _ _ h |exact u _ _ _ h |exact j _ _ _ _ h
noncomputable def gE(F:Str->Pos->Bool)(e:Expr):Bool:=jk {fName:=F} e
def cU{F:Str->Pos->Bool}{e:Expr}{P:Expr->Prop}(h:gE F e=true)(k:∀x p,F x p=true->P (.Name x p)):P e:=
 dD h k (λa a a h=>ff h) (λa a a h=>ff h) (λa a a h=>ff h) (λa a a a h=>ff h) (λa a a a h=>ff h) (λa a a a h=>ff h) (λa a a h=>ff h) (λa a a a h=>ff h) (λa a a h=>ff h) (λa a a a h=>ff h) (λa a h=>ff h) (λa a a h=>ff h) (λa a a h=>ff h) (λa a a a h=>ff h)
noncomputable def pT(F:Const->Nat->Pos->Bool)(e:Expr):Bool:=jk {AR:=F} e
def kW{F:Const->Nat->Pos->Bool}{e:Expr}{P:Expr->Prop}(h:pT F e=true)(k:∀k n p,F k n p=true->P (.Constant k n p)):P e:=
 dD h (λa a h=>ff h) k (λa a a h=>ff h) (λa a a h=>ff h) (λa a a a h=>ff h) (λa a a a h=>ff h) (λa a a a h=>ff h) (λa a a h=>ff h) (λa a a a h=>ff h) (λa a a h=>ff h) (λa a a a h=>ff h) (λa a h=>ff h) (λa a a h=>ff h) (λa a a h=>ff h) (λa a a a h=>ff h)
noncomputable def xN(F:UnaryOp->Expr->Pos->Bool)(e:Expr):Bool:=jk {AS:=F} e
def ud{F:UnaryOp->Expr->Pos->Bool}{e:Expr}{P:Expr->Prop}(h:xN F e=true)(k:∀o x p,F o x p=true->P (.UnaryOp o x p)):P e:=
 dD h (λa a h=>ff h) (λa a a h=>ff h) k (λa a a h=>ff h) (λa a a a h=>ff h) (λa a a a h=>ff h) (λa a a a h=>ff h) (λa a a h=>ff h) (λa a a a h=>ff h) (λa a a h=>ff h) (λa a a a h=>ff h) (λa a h=>ff h) (λa a a h=>ff h) (λa a a h=>ff h) (λa a a a h=>ff h)
noncomputable def oA(F:Expr->Str->Pos->Bool)(e:Expr):Bool:=jk {GW:=F} e
def jy{F:Expr->Str->Pos->Bool}{e:Expr}{P:Expr->Prop}(h:oA F e=true)(k:∀r x p,F r x p=true->P (.Attribute r x p)):P e:=
 dD h (λa a h=>ff h) (λa a a h=>ff h) (λa a a h=>ff h) k (λa a a a h=>ff h) (λa a a a h=>ff h) (λa a a a h=>ff h) (λa a a h=>ff h) (λa a a a h=>ff h) (λa a a h=>ff h) (λa a a a h=>ff h) (λa a h=>ff h) (λa a a h=>ff h) (λa a a h=>ff h) (λa a a a h=>ff h)
noncomputable def iG(F:Expr->List Expr->List Keyword->Pos->Bool)(e:Expr):Bool:=jk {GX:=F} e
def dO{F:Expr->List Expr->List Keyword->Pos->Bool}{e:Expr}{P:Expr->Prop}(h:iG F e=true)(k:∀f a k p,F f a k p=true->P (.Call f a k p)):P e:=
 dD h (λb b h=>ff h) (λb b b h=>ff h) (λb b b h=>ff h) (λb b b h=>ff h) k (λb b b b h=>ff h) (λb b b b h=>ff h) (λb b b h=>ff h) (λb b b b h=>ff h) (λb b b h=>ff h) (λb b b b h=>ff h) (λb b h=>ff h) (λb b b h=>ff h) (λb b b h=>ff h) (λb b b b h=>ff h)
noncomputable def Ly(F:Expr->Operator->Expr->Pos->Bool)(e:Expr):Bool:=jk {NP:=F} e
def G0{F:Expr->Operator->Expr->Pos->Bool}{e:Expr}{P:Expr->Prop}(h:Ly F e=true)(k:∀l o r p,F l o r p=true->P (.BinOp l o r p)):P e:=
 dD h (λa a h=>ff h) (λa a a h=>ff h) (λa a a h=>ff h) (λa a a h=>ff h) (λa a a a h=>ff h) k (λa a a a h=>ff h) (λa a a h=>ff h) (λa a a a h=>ff h) (λa a a h=>ff h) (λa a a a h=>ff h) (λa a h=>ff h) (λa a a h=>ff h) (λa a a h=>ff h) (λa a a a h=>ff h)
noncomputable def Ck(F:Expr->List CmpOp->List Expr->Pos->Bool)(e:Expr):Bool:=jk {NQ:=F} e
def uf{F:Expr->List CmpOp->List Expr->Pos->Bool}{e:Expr}{P:Expr->Prop}(h:Ck F e=true)(k:∀l o r p,F l o r p=true->P (.Compare l o r p)):P e:=
 dD h (λa a h=>ff h) (λa a a h=>ff h) (λa a a h=>ff h) (λa a a h=>ff h) (λa a a a h=>ff h) (λa a a a h=>ff h) k (λa a a h=>ff h) (λa a a a h=>ff h) (λa a a h=>ff h) (λa a a a h=>ff h) (λa a h=>ff h) (λa a a h=>ff h) (λa a a h=>ff h) (λa a a a h=>ff h)
noncomputable def G1(F:BoolOp->List Expr->Pos->Bool)(e:Expr):Bool:=jk {NR:=F} e
def zw{F:BoolOp->List Expr->Pos->Bool}{e:Expr}{P:Expr->Prop}(h:G1 F e=true)(k:∀o r p,F o r p=true->P (.BoolOp o r p)):P e:=
 dD h (λa a h=>ff h) (λa a a h=>ff h) (λa a a h=>ff h) (λa a a h=>ff h) (λa a a a h=>ff h) (λa a a a h=>ff h) (λa a a a h=>ff h) k (λa a a a h=>ff h) (λa a a h=>ff h) (λa a a a h=>ff h) (λa a h=>ff h) (λa a a h=>ff h) (λa a a h=>ff h) (λa a a a h=>ff h)
noncomputable def Qz(F:Expr->Expr->Expr->Pos->Bool)(e:Expr):Bool:=jk {Sk:=F} e
def JY{F:Expr->Expr->Expr->Pos->Bool}{e:Expr}{P:Expr->Prop}(h:Qz F e=true)(k:∀t x y p,F t x y p=true->P (.IfExp t x y p)):P e:=
 dD h (λa a h=>ff h) (λa a a h=>ff h) (λa a a h=>ff h) (λa a a h=>ff h) (λa a a a h=>ff h) (λa a a a h=>ff h) (λa a a a h=>ff h) (λa a a h=>ff h) k (λa a a h=>ff h) (λa a a a h=>ff h) (λa a h=>ff h) (λa a a h=>ff h) (λa a a h=>ff h) (λa a a a h=>ff h)
noncomputable def vt(F:Expr->Expr->Pos->Bool)(e:Expr):Bool:=jk {NT:=F} e
def mj{F:Expr->Expr->Pos->Bool}{e:Expr}{P:Expr->Prop}(h:vt F e=true)(k:∀x y p,F x y p=true->P (.Subscript x y p)):P e:=
 dD h (λa a h=>ff h) (λa a a h=>ff h) (λa a a h=>ff h) (λa a a h=>ff h) (λa a a a h=>ff h) (λa a a a h=>ff h) (λa a a a h=>ff h) (λa a a h=>ff h) (λa a a a h=>ff h) k (λa a a a h=>ff h) (λa a h=>ff h) (λa a a h=>ff h) (λa a a h=>ff h) (λa a a a h=>ff h)
noncomputable def Cm(F:Option Expr->Option Expr->Option Expr->Pos->Bool)(e:Expr):Bool:=jk {NU:=F} e
def ug{F:Option Expr->Option Expr->Option Expr->Pos->Bool}{e:Expr}{P:Expr->Prop}(h:Cm F e=true)(k:∀x y z p,F x y z p=true->P (.Slice x y z p)):P e:=
 dD h (λa a h=>ff h) (λa a a h=>ff h) (λa a a h=>ff h) (λa a a h=>ff h) (λa a a a h=>ff h) (λa a a a h=>ff h) (λa a a a h=>ff h) (λa a a h=>ff h) (λa a a a h=>ff h) (λa a a h=>ff h) k (λa a h=>ff h) (λa a a h=>ff h) (λa a a h=>ff h) (λa a a a h=>ff h)
noncomputable def Lz(F:List Expr->Pos->Bool)(e:Expr):Bool:=jk {NV:=F} e
def G2{F:List Expr->Pos->Bool}{e:Expr}{P:Expr->Prop}(h:Lz F e=true)(k:∀r p,F r p=true->P (.List r p)):P e:=
 dD h (λa a h=>ff h) (λa a a h=>ff h) (λa a a h=>ff h) (λa a a h=>ff h) (λa a a a h=>ff h) (λa a a a h=>ff h) (λa a a a h=>ff h) (λa a a h=>ff h) (λa a a a h=>ff h) (λa a a h=>ff h) (λa a a a h=>ff h) k (λa a a h=>ff h) (λa a a h=>ff h) (λa a a a h=>ff h)
noncomputable def Cn(F:List Expr->Nat->Pos->Bool)(e:Expr):Bool:=jk {NW:=F} e
def um{F:List Expr->Nat->Pos->Bool}{e:Expr}{P:Expr->Prop}(h:Cn F e=true)(k:∀r k p,F r k p=true->P (.Tuple r k p)):P e:=
 dD h (λa a h=>ff h) (λa a a h=>ff h) (λa a a h=>ff h) (λa a a h=>ff h) (λa a a a h=>ff h) (λa a a a h=>ff h) (λa a a a h=>ff h) (λa a a h=>ff h) (λa a a a h=>ff h) (λa a a h=>ff h) (λa a a a h=>ff h) (λa a h=>ff h) k (λa a a h=>ff h) (λa a a a h=>ff h)
noncomputable def G3(F:List (Option Expr)->List Expr->Pos->Bool)(e:Expr):Bool:=jk {GY:=F} e
def DL{F:List (Option Expr)->List Expr->Pos->Bool}{e:Expr}{P:Expr->Prop}(h:G3 F e=true)(k:∀k v p,F k v p=true->P (.Dict k v p)):P e:=
 dD h (λa a h=>ff h) (λa a a h=>ff h) (λa a a h=>ff h) (λa a a h=>ff h) (λa a a a h=>ff h) (λa a a a h=>ff h) (λa a a a h=>ff h) (λa a a h=>ff h) (λa a a a h=>ff h) (λa a a h=>ff h) (λa a a a h=>ff h) (λa a h=>ff h) (λa a a h=>ff h) k (λa a a a h=>ff h)
noncomputable def AU(F:Expr->List Comprehension->Scope->Pos->Bool)(e:Expr):Bool:=jk {GZ:=F} e
def vz{F:Expr->List Comprehension->Scope->Pos->Bool}{e:Expr}{P:Expr->Prop}(h:AU F e=true)(k:∀r g s p,F r g s p=true->P (.ListComp r g s p)):P e:=
 dD h (λa a h=>ff h) (λa a a h=>ff h) (λa a a h=>ff h) (λa a a h=>ff h) (λa a a a h=>ff h) (λa a a a h=>ff h) (λa a a a h=>ff h) (λa a a h=>ff h) (λa a a a h=>ff h) (λa a a h=>ff h) (λa a a a h=>ff h) (λa a h=>ff h) (λa a a h=>ff h) (λa a a h=>ff h) k
structure HS where
 NX:List Expr->Expr->Pos->Bool:=λzz zz zz=>false
 NY:Expr->Operator->Expr->Pos->Bool:=λzz zz zz zz=>false
 Sm:Expr->Pos->Bool:=λzz zz=>false
 fY:Option Expr->Pos->Bool:=λzz zz=>false
 G4:Pos->Bool:=λzz=>false
 NZ:Expr->List Stmt->List Stmt->Pos->Bool:=λzz zz zz zz=>false
 N1:Expr->Expr->List Stmt->List Stmt->Pos->Bool:=λzz zz zz zz zz=>false
 AV:Expr->List Stmt->List Stmt->Pos->Bool:=λzz zz zz zz=>false
noncomputable def pU(q:HS):Stmt->Bool
 | .Assign t v p=>q.NX t v p
 | .AugAssign t o v p=>q.NY t o v p
 | .Expr v p=>q.Sm v p
 | .Return v p=>q.fY v p
 | .Pass p=>q.G4 p
 | .If x b o p=>q.NZ x b o p
 | .For t i b o p=>q.N1 t i b o p
 | .While x b o p=>q.AV x b o p
 |_=>false
def i_{q:HS}{e:Stmt}{P:Stmt->Prop}(h:pU q e=true)
  (g:∀t v p,q.NX t v p=true->P (.Assign t v p))
  (f:∀t o v p,q.NY t o v p=true->P (.AugAssign t o v p))
  (k:∀v p,q.Sm v p=true->P (.Expr v p))
  (d:∀v p,q.fY v p=true->P (.Return v p))
  (c:∀p,q.G4 p=true->P (.Pass p))
  (j:∀x b o p,q.NZ x b o p=true->P (.If x b o p))
  (kFor:∀t i b o p,q.N1 t i b o p=true->P (.For t i b o p))
  (a:∀x b o p,q.AV x b o p=true->P (.While x b o p)):P e:=by
 cases e<;>first |exact ff h |exact g _ _ _ h |exact f _ _ _ _ h |exact k _ _ h |exact d _ _ h |exact c _ h |exact j _ _ _ _ h |exact kFor _ _ _ _ _ h |exact a _ _ _ _ h
noncomputable def zx(F:List Expr->Expr->Pos->Bool)(e:Stmt):Bool:=pU {NX:=F} e
def pV{F:List Expr->Expr->Pos->Bool}{e:Stmt}{P:Stmt->Prop}(h:zx F e=true)(k:∀t v p,F t v p=true->P (.Assign t v p)):P e:=
 i_ h k (λa a a a h=>ff h) (λa a h=>ff h) (λa a h=>ff h) (λa h=>ff h) (λa a a a h=>ff h) (λa a a a a h=>ff h) (λa a a a h=>ff h)
noncomputable def LA(F:Expr->Operator->Expr->Pos->Bool)(e:Stmt):Bool:=pU {NY:=F} e
def G5{F:Expr->Operator->Expr->Pos->Bool}{e:Stmt}{P:Stmt->Prop}(h:LA F e=true)(k:∀t o v p,F t o v p=true->P (.AugAssign t o v p)):P e:=
 i_ h (λa a a h=>ff h) k (λa a h=>ff h) (λa a h=>ff h) (λa h=>ff h) (λa a a a h=>ff h) (λa a a a a h=>ff h) (λa a a a h=>ff h)
noncomputable def QA(F:Expr->Pos->Bool)(e:Stmt):Bool:=pU {Sm:=F} e
def JZ{F:Expr->Pos->Bool}{e:Stmt}{P:Stmt->Prop}(h:QA F e=true)(k:∀v p,F v p=true->P (.Expr v p)):P e:=
 i_ h (λa a a h=>ff h) (λa a a a h=>ff h) k (λa a h=>ff h) (λa h=>ff h) (λa a a a h=>ff h) (λa a a a a h=>ff h) (λa a a a h=>ff h)
noncomputable def G6(F:Option Expr->Pos->Bool)(e:Stmt):Bool:=pU {fY:=F} e
def zy{F:Option Expr->Pos->Bool}{e:Stmt}{P:Stmt->Prop}(h:G6 F e=true)(k:∀v p,F v p=true->P (.Return v p)):P e:=
 i_ h (λa a a h=>ff h) (λa a a a h=>ff h) (λa a h=>ff h) k (λa h=>ff h) (λa a a a h=>ff h) (λa a a a a h=>ff h) (λa a a a h=>ff h)
noncomputable def G7(F:Pos->Bool)(e:Stmt):Bool:=pU {G4:=F} e
def DM{F:Pos->Bool}{e:Stmt}{P:Stmt->Prop}(h:G7 F e=true)(k:∀p,F p=true->P (.Pass p)):P e:=
 i_ h (λa a a h=>ff h) (λa a a a h=>ff h) (λa a h=>ff h) (λa a h=>ff h) k (λa a a a h=>ff h) (λa a a a a h=>ff h) (λa a a a h=>ff h)
noncomputable def LB(F:Expr->List Stmt->List Stmt->Pos->Bool)(e:Stmt):Bool:=pU {NZ:=F} e
def G8{F:Expr->List Stmt->List Stmt->Pos->Bool}{e:Stmt}{P:Stmt->Prop}(h:LB F e=true)(k:∀x b o p,F x b o p=true->P (.If x b o p)):P e:=
 i_ h (λa a a h=>ff h) (λa a a a h=>ff h) (λa a h=>ff h) (λa a h=>ff h) (λa h=>ff h) k (λa a a a a h=>ff h) (λa a a a h=>ff h)
noncomputable def G9(F:Expr->Expr->List Stmt->List Stmt->Pos->Bool)(e:Stmt):Bool:=pU {N1:=F} e
def zA{F:Expr->Expr->List Stmt->List Stmt->Pos->Bool}{e:Stmt}{P:Stmt->Prop}(h:G9 F e=true)(k:∀t i b o p,F t i b o p=true->P (.For t i b o p)):P e:=
 i_ h (λa a a h=>ff h) (λa a a a h=>ff h) (λa a h=>ff h) (λa a h=>ff h) (λa h=>ff h) (λa a a a h=>ff h) k (λa a a a h=>ff h)
noncomputable def Co(F:Expr->List Stmt->List Stmt->Pos->Bool)(e:Stmt):Bool:=pU {AV:=F} e
def AW{F:Expr->List Stmt->List Stmt->Pos->Bool}{e:Stmt}{P:Stmt->Prop}(h:Co F e=true)(k:∀x b o p,F x b o p=true->P (.While x b o p)):P e:=
 i_ h (λa a a h=>ff h) (λa a a a h=>ff h) (λa a h=>ff h) (λa a h=>ff h) (λa h=>ff h) (λa a a a h=>ff h) (λa a a a a h=>ff h) k
noncomputable def G_(F:Int->Bool):Const->Bool
 | .int i=>F i
 |_=>false
def DN{F:Int->Bool}{e:Const}{P:Const->Prop}(h:G_ F e=true)(k:∀i,F i=true->P (.int i)):P e:=by
 cases e<;>first |exact ff h |exact k _ h
noncomputable def Hf(b:Bool):UnaryOp->Bool
 | .USub=>b
 |_=>false
def DO{b:Bool}{e:UnaryOp}{P:UnaryOp->Prop}(h:Hf b e=true)(k:b=true->P .USub):P e:=by
 cases e<;>first |exact ff h |exact k h
noncomputable def Hg(b:Bool):UnaryOp->Bool
 | .Not=>b
 |_=>false
def DP{b:Bool}{e:UnaryOp}{P:UnaryOp->Prop}(h:Hg b e=true)(k:b=true->P .Not):P e:=by
 cases e<;>first |exact ff h |exact k h
noncomputable def LC(b:Bool):BoolOp->Bool
 | .And=>b
 |_=>false
def Hh{b:Bool}{e:BoolOp}{P:BoolOp->Prop}(h:LC b e=true)(k:b=true->P .And):P e:=by
 cases e<;>first |exact ff h |exact k h
noncomputable def QC(b:Bool):BoolOp->Bool
 | .Or=>b
 |_=>false
def J0{b:Bool}{e:BoolOp}{P:BoolOp->Prop}(h:QC b e=true)(k:b=true->P .Or):P e:=by
 cases e<;>first |exact ff h |exact k h
noncomputable def Cp(b:Bool):Const->Bool
 | .none=>b
 |_=>false
def AX{b:Bool}{e:Const}{P:Const->Prop}(h:Cp b e=true)(k:b=true->P .none):P e:=by
 cases e<;>first |exact ff h |exact k h
noncomputable def xO{b:Type}(f:b->Bool):List b->Bool
 | []=>false
 |a::r=>match r with
  | []=>f a
  |_::_=>false
def eL{b:Type}{f:b->Bool}{l:List b}{P:List b->Prop}(h:xO f l=true)(k:∀a,f a=true->P [a]):P l:=by
 cases l with
 |nil=>exact ff h
 |cons a r=>cases r with
  |nil=>exact k a h
  |cons _ _=>exact ff h
noncomputable def xX{a:Type}(b:Bool):List a->Bool
 | []=>b
 |_::_=>false
def fG{a:Type}{b:Bool}{l:List a}{P:List a->Prop}(h:xX b l=true)(k:b=true->P []):P l:=by
 cases l with
 |nil=>exact k h
 |cons _ _=>exact ff h
noncomputable def N2{b:Type}(f:b->Bool):Option b->Bool
 |none=>false
 |some a=>f a
def qI{b:Type}{f:b->Bool}{l:Option b}{P:Option b->Prop}(h:N2 f l=true)(k:∀a,f a=true->P (some a)):P l:=by
 cases l with
 |none=>exact ff h
 |some a=>exact k a h
noncomputable def N3{a:Type}(b:Bool):Option a->Bool
 |none=>b
 |some _=>false
def qJ{a:Type}{b:Bool}{l:Option a}{P:Option a->Prop}(h:N3 b l=true)(k:b=true->P none):P l:=by
 cases l with
 |none=>exact k h
 |some _=>exact ff h
noncomputable def LD(f:Expr->Expr->List Expr->Int->Bool):Comprehension->Bool
 |⟨t,i,c,a⟩=>f t i c a
def zB{f:Expr->Expr->List Expr->Int->Bool}{g:Comprehension}{P:Comprehension->Prop}(h:LD f g=true)(k:∀t i c a,f t i c a=true->P ⟨t,i,c,a⟩):P g:=by
 cases g;exact k _ _ _ _ h
def b1{a b:Bool}(h:(a&&b)=true):a=true:=by cases a<;>first |rfl |exact ff h
def b2{a b:Bool}(h:(a&&b)=true):b=true:=by cases a<;>first |exact h |exact ff h
def nb{b:Bool}(h:(!b)=true):b=false:=by cases b<;>first |rfl |exact ff h
noncomputable def QD{b:Type}(f:b->List b->Bool):List b->Bool
 | []=>false
 |a::r=>f a r
def J1{b:Type}{f:b->List b->Bool}{l:List b}{P:List b->Prop}(h:QD f l=true)(k:∀a r,f a r=true->P (a::r)):P l:=by
 cases l with
 |nil=>exact ff h
 |cons a r=>exact k a r h
noncomputable def onStr(f:Str->Bool):Const->Bool
 | .str y=>f y
 |_=>false
def Hi{f:Str->Bool}{e:Const}{P:Const->Prop}(h:onStr f e=true)(k:∀y,f y=true->P (.str y)):P e:=by
 cases e<;>first |exact ff h |exact k _ h
noncomputable def keysOk:List Nat->List (Option Expr)->Bool
 | [],r=>xX true r
 |k::b,r=>QD (λe es=>N2 (λe=>pT (λc a a=>onStr (λy=>y==sn k&&decide (k<NS)&&keysOk b es) c) e) e) r
mutual
noncomputable def aO(h:Ctx):IE->Expr->Bool
 | .stuck,r=>d8 r
 | .l i,d=>gE (λx j=> !(x==("__debug__":Str))&&jM h i x) d
 | .t v,d=>pT (λk j j=>litOk v k) d
 | .g g,d=>gE (λx j=>decide (g<Lr.length)&&xM h x (Lr.getD g "")) d
 | .neg n,d=>xN (λo y j=>Hf (pT (λk j j=>G_ (λi=>i==(n:Int)) k) y) o) d
 | .attr e f,d=>oA (λr x j=>cZ r&&decide (f<NS)&&x==sn f&&aO h e r) d
 | .call f m,d=>iG (λH args q j=>gE (λx j=>xX (decide (f<D5.length)&& !(yX f)&&xM h x (D5.getD f "")&&jg h m args) q) H) d
 | .new k m,d=>iG (λH args q j=>gE (λx j=>xX (decide (k<16)&&xM h x (Qi.getD k "")&&jg h m args) q) H) d
 | .kN e f m,d=>iG (λg args q p=>oA (λr x C=>xX (cZ r&&decide (f<NS)&&x==sn f&&decide (args.length<30)&&(C.endLine==p.line)&&aO h e r&&jg h m args) q) g) d
 | .append e x,d=>iG (λg m q p=>oA (λr n C=>xO (λa=>xX (cZ r&&n==Str.ofString "append"&&(C.endLine==p.line)&&aO h e r&&aO h x a) q) m) g) d
 | .extend e x,d=>iG (λg m q p=>oA (λr n C=>xO (λa=>xX (cZ r&&n==Str.ofString "extend"&&(C.endLine==p.line)&&aO h e r&&aO h x a) q) m) g) d
 | .pop e,d=>iG (λg m q p=>oA (λr n C=>xX (xX (cZ r&&n==Str.ofString "pop"&&(C.endLine==p.line)&&aO h e r) q) m) g) d
 | .len e,d=>iG (λg m q j=>gE (λx j=>xO (λa=>xX (xM h x "len"&&aO h e a) q) m) g) d
 | .sorted e,d=>iG (λg m q j=>gE (λx j=>xO (λa=>xX (xM h x "sorted"&&aO h e a) q) m) g) d
 | .yD e,d=>iG (λg m q j=>gE (λx j=>xO (λa=>xX (xM h x "any"&&aO h e a) q) m) g) d
 | .qz e,d=>iG (λg m q j=>gE (λx j=>xO (λa=>xX (xM h x "list"&&aO h e a) q) m) g) d
 | .bin op a b,d=>Ly (λl o r j=>o==Tu op&&aO h a l&&aO h b r) d
 | .cmp op a b,d=>Ck (λl os rs j=>xO (λo=>xO (λr=>o==Sj op&& !behindInMarks o r&&aO h a l&&aO h b r) rs) os) d
 | .p_ neg e,d=>Ck (λl os rs j=>xO (λo=>xO (λr=>pT (λk j j=>Cp (o==(if neg then .IsNot else .Is)&&aO h e l) k) r) rs) os) d
 | .D0 e t,d=>Ck (λl os rs j=>xO (λo=>xO (λr=>o== .In&& !behindInMarks o r&&aO h e l&&aO h t r) rs) os) d
 | .dh m,d=>G1 (λo rs j=>LC (decide (0<fh m)&&jg h m rs) o) d
 | .qP m,d=>G1 (λo rs j=>QC (decide (0<fh m)&&jg h m rs) o) d
 | .ng e,d=>xN (λo x j=>Hg (aO h e x) o) d
 | .ite c a b,d=>Qz (λt x y j=>aO h c t&&aO h a x&&aO h b y) d
 | .sub o i,d=>vt (λx y j=>aO h o x&&aO h i y) d
 | .Ni o a,d=>vt (λx s j=>Cm (λu v w j=>N2 (λy=>N3 (N3 (aO h o x&&aO h a y) w) v) u) s) d
 | .Nj o b,d=>vt (λx s j=>Cm (λu v w j=>N3 (N2 (λy=>N3 (aO h o x&&aO h b y) w) v) u) s) d
 | .Ox o a b,d=>vt (λx s j=>Cm (λu v w j=>N2 (λy=>N2 (λz=>N3 (aO h o x&&aO h a y&&aO h b z) w) v) u) s) d
 | .list m,d=>Lz (λrs j=>jg h m rs) d
 | .tup m,d=>Cn (λrs j j=>decide (rs.length<1000)&&jg h m rs) d
 | .dict D m,d=>G3 (λG aZ j=>keysOk D G&&nI (D.map sn)&&decide (D.length<=15)&&decide (fh m=D.length)&&jg h m aZ) d
 | .comp I i N cond,d=>AU (λL M A j=>xO (λg=>LD (λt E J a=>gE (λy j=>a==0&&tW h A i y&&mh E&&uG h N E&&aO (dH h A i y) I L&&jg (dH h A i y) cond J) t) g) M) d
noncomputable def jg(a:Ctx):IL->List Expr->Bool
 | .z,[]=>true
 | .c e b,r::rs=>aO a e r&&jg a b rs
 |_,_=>false
noncomputable def uG(c:Ctx):II->Expr->Bool
 | .seq e,r=>aO c e r
 | .range h,b=>iG (λg rs f d=>gE (λx d=>xX (xM c x "range"&&jg c h rs) f) g) b
 | .rev e,b=>iG (λg h f d=>gE (λx d=>xO (λa=>xX (xM c x "reversed"&&aO c e a) f) h) g) b
end
noncomputable def xP(c:Ctx)(x:Str)(d:Pos)(a:Scope)(b:Pos):Bool:=
 c.nm.lookup x==some .local&&d.line==b.line&& !(a.names.any λ(n,k)=>n==x&&(k== .local||k== .cell))
noncomputable def Sn(e:IE):Bool:=e.ctorIdx==31
def N4{e:IE}{P:IE->Prop}(h:Sn e=true)(k:∀a i b cond,P (.comp a i b cond)):P e:=by
 cases e<;>first |exact ff h |exact k _ _ _ _
noncomputable def Cq(d:Ctx)(e:IE)(x:Str)(f:Pos)(v:Expr):Bool:=cond (Sn e) (AU (λc c a b=>xP d x f a b) v) (mY v)
mutual
noncomputable def nq(d:Ctx):IS->Stmt->Bool
 | .a i e,a=>zx (λk v p=>xO (λt=>gE (λx n=>jM d i x&&aO d e v&&Cq d e x n v) t) k) a
 | .Lp l e,a=>zx (λk v h=>xO (λt=>Cn (λes h h=>l_ d l es&&notTuple v&&aO d e v) t) k) a
 | .qU o f e,a=>zx (λk v h=>xO (λg=>oA (λt x h=>decide (f<NS)&&x==sn f&&aO d o t&&aO d e v) g) k) a
 | .sN o i e,a=>zx (λk v h=>xO (λg=>vt (λt s h=>aO d o t&&aO d i s&&aO d e v) g) k) a
 | .aug i op e,a=>LA (λt o v h=>gE (λx h=>jM d i x&&o==Tv op&&aO d e v) t) a
 | .ex e,a=>QA (λv h=>mY v&&aO d e v) a
 | .ret e,a=>G6 (λo h=>N2 (λv=>aO d e v) o) a
 | .AD,a=>G6 (λo h=>N3 (true) o) a
 | .pass,a=>G7 (λh=>true) a
 | .ite c t f,a=>LB (λx b o h=>aO d c x&&oB d t b&&oB d f o) a
 | .gI i m b,a=>G9 (λt j body o h=>gE (λx h=>xX (jM d i x&&mh j&&uG d m j&&oB d b body) o) t) a
 | .yv l m b,a=>G9 (λt j body o h=>Cn (λes h h=>xX (l_ d l es&&mh j&&uG d m j&&oB d b body) o) t) a
 | .gz c b,a=>Co (λx body o h=>xX (aO d c x&&oB d b body) o) a
noncomputable def oB(a:Ctx):IB->List Stmt->Bool
 | .z,[]=>true
 | .c s b,r::rs=>nq a s r&&oB a b rs
 |_,_=>false
end
def bX{a:Ctx}{e:IE}{r:Expr}(h:aO a e r=true):d8 r=true:=by
 cases r<;>first |rfl |skip
 cases e<;>exact ff h
theorem ja{b:Ctx}:∀{a:IL} {rs:List Expr},jg b a rs=true->rs.all d8=true
 | .z,[],_=>rfl
 | .c e a,r::rs,h=>by
  have h:=h;show(d8 r&&rs.all d8)=true;rw [bX (b1 h),ja (b2 h)];rfl
 | .z,_::_,h=>ff h
 | .c _ _,[],h=>ff h
theorem pW{b:Ctx}:∀{a:IL} {rs:List Expr},jg b a rs=true->rs.length=fh a
 | .z,[],_=>rfl
 | .c e a,r::rs,h=>by
  have h:=h;show rs.length+1=fh a+1;rw [pW (b2 h)]
 | .z,_::_,h=>ff h
 | .c _ _,[],h=>ff h
def kX{a:Ctx}{x:Str}{y:String}(h:xM a x y=true):x=Str.ofString y/\(x==("__debug__":Str))=false/\a.nm.lookup x=some .globalImplicit:=by
 have h:=h;exact⟨eq_of_beq (b1 (b1 h)),nb (b2 (b1 h)),eq_of_beq (b2 h)⟩
def fold_plain{r:Expr}(h:mh r=true)(env:Env):∀x,foldedSetIterable r env x=pure x:=by
 intro x;cases r<;>first |rfl |exact ff h
end
def J2{b:Ctx}{i:Nat}{a:Expr}{P:Expr->Prop}(h:aO b (.l i) a=true)(k:∀x pos,(x==("__debug__":Str))=false->(jM b i x)=true->P (.Name x pos)):P a:=
 cU h λw1 c h=>k _ _ (nb (b1 h)) (b2 h)
def J3{b:Ctx}{v:V}{a:Expr}{P:Expr->Prop}(h:aO b (.t v) a=true)(k:∀k n pos,(litOk v k)=true->P (.Constant k n pos)):P a:=
 kW h λw1 c d h=>k _ _ _ (h)
def Hj{b:Ctx}{g:Nat}{a:Expr}{P:Expr->Prop}(h:aO b (.g g) a=true)(k:∀x pos,g<Lr.length->(xM b x (Lr.getD g ""))=true->P (.Name x pos)):P a:=
 cU h λw1 c h=>k _ _ (of_decide_eq_true (b1 h)) (b2 h)
def J4{e:Ctx}{n:Nat}{a:Expr}{P:Expr->Prop}(h:aO e (.neg n) a=true)(k:∀i k p pos,i=(n:Int)->P (.UnaryOp .USub (.Constant (.int i) k p) pos)):P a:=
 ud h λw1 w2 c h=>DO (P:=λb=>P ((.UnaryOp b w2 c))) h λh=>kW (P:=λb=>P ((.UnaryOp (.USub) b c))) h λj f d h=>DN (P:=λb=>P ((.UnaryOp (.USub) (.Constant b f d) c))) h λg h=>k _ _ _ _ (eq_of_beq (h))
def Hl{b:Ctx}{e:IE}{f:Nat}{a:Expr}{P:Expr->Prop}(h:aO b (.attr e f) a=true)(k:∀r x pos,(cZ r)=true->f<NS->x=sn f->(aO b e r)=true->P (.Attribute r x pos)):P a:=
 jy h λw1 w2 c h=>k _ _ _ (b1 (b1 (b1 h))) (of_decide_eq_true (b2 (b1 (b1 h)))) (eq_of_beq (b2 (b1 h))) (b2 h)
def Ho{b:Ctx}{f:Nat}{d:IL}{a:Expr}{P:Expr->Prop}(h:aO b (.call f d) a=true)(k:∀x j args pos,f<D5.length->(yX f)=false->(xM b x (D5.getD f ""))=true->(jg b d args)=true->P (.Call (.Name x j) args [] pos)):P a:=
 dO h λw1 w2 l e h=>cU (P:=λc=>P ((.Call c w2 l e))) h λm g h=>fG (P:=λc=>P ((.Call (.Name m g) w2 c e))) h λh=>k _ _ _ _ (of_decide_eq_true (b1 (b1 (b1 h)))) (nb (b2 (b1 (b1 h)))) (b2 (b1 h)) (b2 h)
def J5{b:Ctx}{k:Nat}{d:IL}{a:Expr}{P:Expr->Prop}(h:aO b (.new k d) a=true)(k:∀x g args pos,k<16->(xM b x (Qi.getD k ""))=true->(jg b d args)=true->P (.Call (.Name x g) args [] pos)):P a:=
 dO h λw1 w2 j e h=>cU (P:=λc=>P ((.Call c w2 j e))) h λl f h=>fG (P:=λc=>P ((.Call (.Name l f) w2 c e))) h λh=>k _ _ _ _ (of_decide_eq_true (b1 (b1 h))) (b2 (b1 h)) (b2 h)
def Hp{b:Ctx}{e:IE}{f:Nat}{g:IL}{a:Expr}{P:Expr->Prop}(h:aO b (.kN e f g) a=true)(k:∀r x j args p,(cZ r)=true->f<NS->x=sn f->args.length<30->j.endLine=p.line->(aO b e r)=true->(jg b g args)=true->P (.Call (.Attribute r x j) args [] p)):P a:=
 dO h λw1 w2 l d h=>jy (P:=λc=>P ((.Call c w2 l d))) h λo m n h=>fG (P:=λc=>P ((.Call (.Attribute o m n) w2 c d))) h λh=>k _ _ _ _ _ (b1 (b1 (b1 (b1 (b1 (b1 h)))))) (of_decide_eq_true (b2 (b1 (b1 (b1 (b1 (b1 h))))))) (eq_of_beq (b2 (b1 (b1 (b1 (b1 h)))))) (of_decide_eq_true (b2 (b1 (b1 (b1 h))))) (eq_of_beq (b2 (b1 (b1 h)))) (b2 (b1 h)) (b2 h)
def AY{f:Ctx}{e:IE}{x:IE}{b:Expr}{P:Expr->Prop}(h:aO f (.append e x) b=true)(k:∀r n m a p,(cZ r)=true->n=Str.ofString "append"->m.endLine=p.line->(aO f e r)=true->(aO f x a)=true->P (.Call (.Attribute r n m) [a] [] p)):P b:=
 dO h λw1 w2 g d h=>jy (P:=λc=>P ((.Call c w2 g d))) h λo j l h=>eL (P:=λc=>P ((.Call (.Attribute o j l) c g d))) h λq h=>fG (P:=λc=>P ((.Call (.Attribute o j l) [q] c d))) h λh=>k _ _ _ _ _ (b1 (b1 (b1 (b1 h)))) (eq_of_beq (b2 (b1 (b1 (b1 h))))) (eq_of_beq (b2 (b1 (b1 h)))) (b2 (b1 h)) (b2 h)
def AZ{f:Ctx}{e:IE}{x:IE}{b:Expr}{P:Expr->Prop}(h:aO f (.extend e x) b=true)(k:∀r n m a p,(cZ r)=true->n=Str.ofString "extend"->m.endLine=p.line->(aO f e r)=true->(aO f x a)=true->P (.Call (.Attribute r n m) [a] [] p)):P b:=
 dO h λw1 w2 g d h=>jy (P:=λc=>P ((.Call c w2 g d))) h λo j l h=>eL (P:=λc=>P ((.Call (.Attribute o j l) c g d))) h λq h=>fG (P:=λc=>P ((.Call (.Attribute o j l) [q] c d))) h λh=>k _ _ _ _ _ (b1 (b1 (b1 (b1 h)))) (eq_of_beq (b2 (b1 (b1 (b1 h))))) (eq_of_beq (b2 (b1 (b1 h)))) (b2 (b1 h)) (b2 h)
def J6{f:Ctx}{e:IE}{a:Expr}{P:Expr->Prop}(h:aO f (.pop e) a=true)(k:∀r n l p,(cZ r)=true->n=Str.ofString "pop"->l.endLine=p.line->(aO f e r)=true->P (.Call (.Attribute r n l) [] [] p)):P a:=
 dO h λw1 w2 d c h=>jy (P:=λb=>P ((.Call b w2 d c))) h λj g m h=>fG (P:=λb=>P ((.Call (.Attribute j g m) b d c))) h λh=>fG (P:=λb=>P ((.Call (.Attribute j g m) [] b c))) h λh=>k _ _ _ _ (b1 (b1 (b1 h))) (eq_of_beq (b2 (b1 (b1 h)))) (eq_of_beq (b2 (b1 h))) (b2 h)
def J7{d:Ctx}{e:IE}{b:Expr}{P:Expr->Prop}(h:aO d (.len e) b=true)(k:∀x m a pos,(xM d x "len")=true->(aO d e a)=true->P (.Call (.Name x m) [a] [] pos)):P b:=
 dO h λw1 w2 j f h=>cU (P:=λc=>P ((.Call c w2 j f))) h λl g h=>eL (P:=λc=>P ((.Call (.Name l g) c j f))) h λn h=>fG (P:=λc=>P ((.Call (.Name l g) [n] c f))) h λh=>k _ _ _ _ (b1 h) (b2 h)
def A0{d:Ctx}{e:IE}{b:Expr}{P:Expr->Prop}(h:aO d (.sorted e) b=true)(k:∀x m a pos,(xM d x "sorted")=true->(aO d e a)=true->P (.Call (.Name x m) [a] [] pos)):P b:=
 dO h λw1 w2 j f h=>cU (P:=λc=>P ((.Call c w2 j f))) h λl g h=>eL (P:=λc=>P ((.Call (.Name l g) c j f))) h λn h=>fG (P:=λc=>P ((.Call (.Name l g) [n] c f))) h λh=>k _ _ _ _ (b1 h) (b2 h)
def J8{d:Ctx}{e:IE}{b:Expr}{P:Expr->Prop}(h:aO d (.yD e) b=true)(k:∀x m a pos,(xM d x "any")=true->(aO d e a)=true->P (.Call (.Name x m) [a] [] pos)):P b:=
 dO h λw1 w2 j f h=>cU (P:=λc=>P ((.Call c w2 j f))) h λl g h=>eL (P:=λc=>P ((.Call (.Name l g) c j f))) h λn h=>fG (P:=λc=>P ((.Call (.Name l g) [n] c f))) h λh=>k _ _ _ _ (b1 h) (b2 h)
def A1{d:Ctx}{e:IE}{b:Expr}{P:Expr->Prop}(h:aO d (.qz e) b=true)(k:∀x m a pos,(xM d x "list")=true->(aO d e a)=true->P (.Call (.Name x m) [a] [] pos)):P b:=
 dO h λw1 w2 j f h=>cU (P:=λc=>P ((.Call c w2 j f))) h λl g h=>eL (P:=λc=>P ((.Call (.Name l g) c j f))) h λn h=>fG (P:=λc=>P ((.Call (.Name l g) [n] c f))) h λh=>k _ _ _ _ (b1 h) (b2 h)
def J9{d:Ctx}{op:uF}{a:IE}{b:IE}{c:Expr}{P:Expr->Prop}(h:aO d (.bin op a b) c=true)(k:∀l o r pos,o=Tu op->(aO d a l)=true->(aO d b r)=true->P (.BinOp l o r pos)):P c:=
 G0 h λw1 w2 e f h=>k _ _ _ _ (eq_of_beq (b1 (b1 h))) (b2 (b1 h)) (b2 h)
def J_{d:Ctx}{op:Be}{a:IE}{b:IE}{c:Expr}{P:Expr->Prop}(h:aO d (.cmp op a b) c=true)(k:∀l o r pos,o=Sj op->behindInMarks o r=false->(aO d a l)=true->(aO d b r)=true->P (.Compare l [o] [r] pos)):P c:=
 uf h λw1 w2 g f h=>eL (P:=λe=>P ((.Compare w1 e g f))) h λj h=>eL (P:=λe=>P ((.Compare w1 [j] e f))) h λm h=>k _ _ _ _ (eq_of_beq (b1 (b1 (b1 h)))) (nb (b2 (b1 (b1 h)))) (b2 (b1 h)) (b2 h)
def J'{f:Ctx}{neg:Bool}{e:IE}{b:Expr}{P:Expr->Prop}(h:aO f (.p_ neg e) b=true)(k:∀l o k p pos,o=(if neg then .IsNot else .Is)->(aO f e l)=true->P (.Compare l [o] [.Constant .none k p] pos)):P b:=
 uf (P:=P) h λw1 w2 m c h=>eL (P:=λa=>P ((.Compare w1 a m c))) h λd h=>eL (P:=λa=>P ((.Compare w1 [d] a c))) h λn h=>kW (P:=λa=>P ((.Compare w1 [d] [a] c))) h λq j g h=>AX (P:=λa=>P ((.Compare w1 [d] [(.Constant a j g)] c))) h λh=>k _ _ _ _ _ (eq_of_beq (b1 h)) (b2 h)
def Kc{b:Ctx}{e:IE}{t:IE}{a:Expr}{P:Expr->Prop}(h:aO b (.D0 e t) a=true)(k:∀l o r pos,o= .In->behindInMarks o r=false->(aO b e l)=true->(aO b t r)=true->P (.Compare l [o] [r] pos)):P a:=
 uf h λw1 w2 f d h=>eL (P:=λc=>P ((.Compare w1 c f d))) h λg h=>eL (P:=λc=>P ((.Compare w1 [g] c d))) h λj h=>k _ _ _ _ (eq_of_beq (b1 (b1 (b1 h)))) (nb (b2 (b1 (b1 h)))) (b2 (b1 h)) (b2 h)
def Kd{c:Ctx}{b:IL}{a:Expr}{P:Expr->Prop}(h:aO c (.dh b) a=true)(k:∀rs pos,0<fh b->(jg c b rs)=true->P (.BoolOp .And rs pos)):P a:=
 zw h λw1 w2 d h=>Hh (P:=λe=>P ((.BoolOp e w2 d))) h λh=>k _ _ (of_decide_eq_true (b1 h)) (b2 h)
def N5{c:Ctx}{b:IL}{a:Expr}{P:Expr->Prop}(h:aO c (.qP b) a=true)(k:∀rs pos,0<fh b->(jg c b rs)=true->P (.BoolOp .Or rs pos)):P a:=
 zw h λw1 w2 d h=>J0 (P:=λe=>P ((.BoolOp e w2 d))) h λh=>k _ _ (of_decide_eq_true (b1 h)) (b2 h)
def Ke{b:Ctx}{e:IE}{a:Expr}{P:Expr->Prop}(h:aO b (.ng e) a=true)(k:∀x pos,(aO b e x)=true->P (.UnaryOp .Not x pos)):P a:=
 ud h λw1 w2 c h=>DP (P:=λd=>P ((.UnaryOp d w2 c))) h λh=>k _ _ (h)
def Kf{e:Ctx}{c:IE}{a:IE}{b:IE}{d:Expr}{P:Expr->Prop}(h:aO e (.ite c a b) d=true)(k:∀t x y pos,(aO e c t)=true->(aO e a x)=true->(aO e b y)=true->P (.IfExp t x y pos)):P d:=
 JY h λw1 w2 f g h=>k _ _ _ _ (b1 (b1 h)) (b2 (b1 h)) (b2 h)
def Kg{b:Ctx}{o:IE}{i:IE}{a:Expr}{P:Expr->Prop}(h:aO b (.sub o i) a=true)(k:∀x y pos,(aO b o x)=true->(aO b i y)=true->P (.Subscript x y pos)):P a:=
 mj h λw1 w2 c h=>k _ _ _ (b1 h) (b2 h)
def Kh{f:Ctx}{o:IE}{a:IE}{c:Expr}{P:Expr->Prop}(h:aO f (.Ni o a) c=true)(k:∀x y p pos,(aO f o x)=true->(aO f a y)=true->P (.Subscript x (.Slice (some y) none none p) pos)):P c:=
 mj (P:=P) h λw1 w2 d h=>ug (P:=λb=>P ((.Subscript w1 b d))) h λm l j g h=>qI (P:=λb=>P ((.Subscript w1 (.Slice b l j g) d))) h λe h=>qJ (P:=λb=>P ((.Subscript w1 (.Slice (some e) b j g) d))) h λh=>qJ (P:=λb=>P ((.Subscript w1 (.Slice (some e) (none) b g) d))) h λh=>k _ _ _ _ (b1 h) (b2 h)
def Km{e:Ctx}{o:IE}{b:IE}{c:Expr}{P:Expr->Prop}(h:aO e (.Nj o b) c=true)(k:∀x y p pos,(aO e o x)=true->(aO e b y)=true->P (.Subscript x (.Slice none (some y) none p) pos)):P c:=
 mj (P:=P) h λw1 w2 d h=>ug (P:=λa=>P ((.Subscript w1 a d))) h λm l g f h=>qJ (P:=λa=>P ((.Subscript w1 (.Slice a l g f) d))) h λh=>qI (P:=λa=>P ((.Subscript w1 (.Slice (none) a g f) d))) h λj h=>qJ (P:=λa=>P ((.Subscript w1 (.Slice (none) (some j) a f) d))) h λh=>k _ _ _ _ (b1 h) (b2 h)
def Ko{f:Ctx}{o:IE}{a:IE}{b:IE}{d:Expr}{P:Expr->Prop}(h:aO f (.Ox o a b) d=true)(k:∀x y z p pos,(aO f o x)=true->(aO f a y)=true->(aO f b z)=true->P (.Subscript x (.Slice (some y) (some z) none p) pos)):P d:=
 mj (P:=P) h λw1 w2 e h=>ug (P:=λc=>P ((.Subscript w1 c e))) h λq n m j h=>qI (P:=λc=>P ((.Subscript w1 (.Slice c n m j) e))) h λg h=>qI (P:=λc=>P ((.Subscript w1 (.Slice (some g) c m j) e))) h λl h=>qJ (P:=λc=>P ((.Subscript w1 (.Slice (some g) (some l) c j) e))) h λh=>k _ _ _ _ _ (b1 (b1 h)) (b2 (b1 h)) (b2 h)
def Hq{c:Ctx}{b:IL}{a:Expr}{P:Expr->Prop}(h:aO c (.list b) a=true)(k:∀rs pos,(jg c b rs)=true->P (.List rs pos)):P a:=
 G2 h λw1 d h=>k _ _ (h)
def Kp{c:Ctx}{b:IL}{a:Expr}{P:Expr->Prop}(h:aO c (.tup b) a=true)(k:∀rs k pos,rs.length<1000->(jg c b rs)=true->P (.Tuple rs k pos)):P a:=
 um h λw1 d e h=>k _ _ _ (of_decide_eq_true (b1 h)) (b2 h)
def Hr{e:Ctx}{c:List Nat}{d:IL}{a:Expr}{P:Expr->Prop}(h:aO e (.dict c d) a=true)(k:∀b aZ pos,(keysOk c b)=true->(nI (c.map sn))=true->c.length<=15->fh d=c.length->(jg e d aZ)=true->P (.Dict b aZ pos)):P a:=
 DL h λw1 w2 f h=>k _ _ _ (b1 (b1 (b1 (b1 h)))) (b2 (b1 (b1 (b1 h)))) (of_decide_eq_true (b2 (b1 (b1 h)))) (of_decide_eq_true (b2 (b1 h))) (b2 h)
def Hs{d:Ctx}{g:IE}{i:Nat}{o:II}{cond:IL}{c:Expr}{P:Expr->Prop}(h:aO d (.comp g i o cond) c=true)(k:∀n y q f j a b pos,a=0->(tW d b i y)=true->(mh f)=true->(uG d o f)=true->(aO (dH d b i y) g n)=true->(jg (dH d b i y) cond j)=true->P ((.ListComp n [⟨.Name y q,f,j,a⟩] b pos))):P c:=
 vz h λw1 w2 l m h=>eL (P:=λe=>P ((.ListComp w1 e l m))) h λx h=>zB (P:=λe=>P ((.ListComp w1 [e] l m))) h λz t u p h=>cU (P:=λe=>P ((.ListComp w1 [⟨e,t,u,p⟩] l m))) h λv w h=>k _ _ _ _ _ _ _ _ (eq_of_beq (b1 (b1 (b1 (b1 (b1 h)))))) (b2 (b1 (b1 (b1 (b1 h))))) (b2 (b1 (b1 (b1 h)))) (b2 (b1 (b1 h))) (b2 (b1 h)) (b2 h)
def DQ{b:Ctx}{d:IL}{a:Expr}{P:Expr->Prop}(h:uG b (.range d) a=true)(k:∀x g rs pos,(xM b x "range")=true->(jg b d rs)=true->P (.Call (.Name x g) rs [] pos)):P a:=
 dO h λw1 w2 j e h=>cU (P:=λc=>P ((.Call c w2 j e))) h λl f h=>fG (P:=λc=>P ((.Call (.Name l f) w2 c e))) h λh=>k _ _ _ _ (b1 h) (b2 h)
def Kq{d:Ctx}{e:IE}{b:Expr}{P:Expr->Prop}(h:uG d (.rev e) b=true)(k:∀x m a pos,(xM d x "reversed")=true->(aO d e a)=true->P (.Call (.Name x m) [a] [] pos)):P b:=
 dO h λw1 w2 j f h=>cU (P:=λc=>P ((.Call c w2 j f))) h λl g h=>eL (P:=λc=>P ((.Call (.Name l g) c j f))) h λn h=>fG (P:=λc=>P ((.Call (.Name l g) [n] c f))) h λh=>k _ _ _ _ (b1 h) (b2 h)
def Kr{b:Ctx}{i:Nat}{e:IE}{a:Stmt}{P:Stmt->Prop}(h:nq b (.a i e) a=true)(k:∀x d v p,(jM b i x)=true->(aO b e v)=true->(Cq b e x d v)=true->P (.Assign [.Name x d] v p)):P a:=
 pV h λw1 w2 f h=>eL (P:=λc=>P ((.Assign c w2 f))) h λg h=>cU (P:=λc=>P ((.Assign [c] w2 f))) h λl j h=>k _ _ _ _ (b1 (b1 h)) (b2 (b1 h)) (b2 h)
def Ku{b:Ctx}{f:List Nat}{e:IE}{a:Stmt}{P:Stmt->Prop}(h:nq b (.Lp f e) a=true)(k:∀es k tp v p,(l_ b f es)=true->(notTuple v)=true->(aO b e v)=true->P (.Assign [.Tuple es k tp] v p)):P a:=
 pV h λw1 w2 d h=>eL (P:=λc=>P ((.Assign c w2 d))) h λm h=>um (P:=λc=>P ((.Assign [c] w2 d))) h λj l g h=>k _ _ _ _ _ (b1 (b1 h)) (b2 (b1 h)) (b2 h)
def DS{b:Ctx}{o:IE}{f:Nat}{e:IE}{a:Stmt}{P:Stmt->Prop}(h:nq b (.qU o f e) a=true)(k:∀t x tp v p,f<NS->x=sn f->(aO b o t)=true->(aO b e v)=true->P (.Assign [.Attribute t x tp] v p)):P a:=
 pV h λw1 w2 d h=>eL (P:=λc=>P ((.Assign c w2 d))) h λm h=>jy (P:=λc=>P ((.Assign [c] w2 d))) h λg j l h=>k _ _ _ _ _ (of_decide_eq_true (b1 (b1 (b1 h)))) (eq_of_beq (b2 (b1 (b1 h)))) (b2 (b1 h)) (b2 h)
def Ht{b:Ctx}{o:IE}{i:IE}{e:IE}{a:Stmt}{P:Stmt->Prop}(h:nq b (.sN o i e) a=true)(k:∀t s tp v p,(aO b o t)=true->(aO b i s)=true->(aO b e v)=true->P (.Assign [.Subscript t s tp] v p)):P a:=
 pV h λw1 w2 d h=>eL (P:=λc=>P ((.Assign c w2 d))) h λl h=>mj (P:=λc=>P ((.Assign [c] w2 d))) h λf g j h=>k _ _ _ _ _ (b1 (b1 h)) (b2 (b1 h)) (b2 h)
def Kv{b:Ctx}{i:Nat}{op:uF}{e:IE}{a:Stmt}{P:Stmt->Prop}(h:nq b (.aug i op e) a=true)(k:∀x c o v p,(jM b i x)=true->o=Tv op->(aO b e v)=true->P (.AugAssign (.Name x c) o v p)):P a:=
 G5 h λw1 w2 d g h=>cU (P:=λf=>P ((.AugAssign f w2 d g))) h λj l h=>k _ _ _ _ _ (b1 (b1 h)) (eq_of_beq (b2 (b1 h))) (b2 h)
def N6{b:Ctx}{e:IE}{a:Stmt}{P:Stmt->Prop}(h:nq b (.ex e) a=true)(k:∀v p,(mY v)=true->(aO b e v)=true->P (.Expr v p)):P a:=
 JZ h λw1 c h=>k _ _ (b1 h) (b2 h)
def Kw{b:Ctx}{e:IE}{a:Stmt}{P:Stmt->Prop}(h:nq b (.ret e) a=true)(k:∀v p,(aO b e v)=true->P (.Return (some v) p)):P a:=
 zy h λw1 c h=>qI (P:=λd=>P ((.Return d c))) h λf h=>k _ _ (h)
def Hu{c:Ctx}{a:Stmt}{P:Stmt->Prop}(h:nq c (.AD) a=true)(k:∀p,P (.Return none p)):P a:=
 zy h λw1 b h=>qJ (P:=λd=>P ((.Return d b))) h λh=>k _
def Hv{b:Ctx}{a:Stmt}{P:Stmt->Prop}(h:nq b (.pass) a=true)(k:∀p,P (.Pass p)):P a:=
 DM h λw2 h=>k _
def Ky{d:Ctx}{c:IE}{t:IB}{f:IB}{a:Stmt}{P:Stmt->Prop}(h:nq d (.ite c t f) a=true)(k:∀x b o p,(aO d c x)=true->(oB d t b)=true->(oB d f o)=true->P (.If x b o p)):P a:=
 G8 h λw1 w2 e g h=>k _ _ _ _ (b1 (b1 h)) (b2 (b1 h)) (b2 h)
def Kz{d:Ctx}{i:Nat}{j:II}{b:IB}{a:Stmt}{P:Stmt->Prop}(h:nq d (.gI i j b) a=true)(k:∀x m c body p,(jM d i x)=true->(mh c)=true->(uG d j c)=true->(oB d b body)=true->P (.For (.Name x m) c body [] p)):P a:=
 zA h λw1 w2 f l g h=>cU (P:=λe=>P ((.For e w2 f l g))) h λn o h=>fG (P:=λe=>P ((.For (.Name n o) w2 f e g))) h λh=>k _ _ _ _ _ (b1 (b1 (b1 h))) (b2 (b1 (b1 h))) (b2 (b1 h)) (b2 h)
def Hw{d:Ctx}{l:List Nat}{m:II}{b:IB}{a:Stmt}{P:Stmt->Prop}(h:nq d (.yv l m b) a=true)(k:∀es k tp c body p,(l_ d l es)=true->(mh c)=true->(uG d m c)=true->(oB d b body)=true->P (.For (.Tuple es k tp) c body [] p)):P a:=
 zA h λw1 w2 g n j h=>um (P:=λe=>P ((.For e w2 g n j))) h λo q f h=>fG (P:=λe=>P ((.For (.Tuple o q f) w2 g e j))) h λh=>k _ _ _ _ _ _ (b1 (b1 (b1 h))) (b2 (b1 (b1 h))) (b2 (b1 h)) (b2 h)
def DT{d:Ctx}{c:IE}{b:IB}{a:Stmt}{P:Stmt->Prop}(h:nq d (.gz c b) a=true)(k:∀x body p,(aO d c x)=true->(oB d b body)=true->P (.While x body [] p)):P a:=
 AW h λw1 w2 g e h=>fG (P:=λf=>P ((.While w1 w2 f e))) h λh=>k _ _ _ (b1 h) (b2 h)
section
open PySem.Calls PyProof.Rows
section
variable{c:Cfg}{d:Nat}{C:aR}
structure SE (c:Cfg) (d:Nat) (C:aR) (env:Env) (Γ:Ctx) (e:IE) (r:Expr):Prop where
 val:∀m st K,vE C e m st K->WE c d env Γ r m st K
 test:∀m st KB,vE C e m st (tr KB)->WT c d env Γ r m st KB
def SE.plain{env:Env}{a:Ctx}{e:IE}{r:Expr}(b:qC r=true)(h:∀m st K,vE C e m st K->WE c d env a r m st K):SE c d C env a e r:=
 ⟨h,λm st f k=>Gx b (h m st _ k)⟩
def qK{env:Env}{b:Ctx}{r:Expr}{m:Loc}{st:St}{a:KV}(e:d8 r=true)(h:WE c d env b r m st a):WL c d env b [r] m st λvs st=>∃v,vs=[v]/\a v st:=
 xF e h λv f k=>AH ⟨v,rfl,k⟩
def zD{st:St}{v:V}{K:Bool->St->Prop}(h:tr K v st):∃b,bY st v=some b/\K b st:=by
 unfold tr at h
 cases e:bY st v with
 |none=>rw [e]at h;exact h.elim
 |some b=>rw [e]at h;exact⟨b,rfl,h⟩
def TA{st:St}{v:V}{K:Bool->St->Prop}{b:Bool}(e:bY st v=some b)(h:K b st):tr K v st:=by
 unfold tr;rw [e];exact h
def KG{o:Option O}{F:List V->Prop}{P:Prop}(k:match o with |some (.list xs)=>F xs |_=>False)(h:∀xs,o=some (.list xs)->F xs->P):P:=by
 cases o with
 |none=>exact False.elim k
 |some o=>cases o<;>first |exact False.elim k |exact h _ rfl k
def vA{st:St}{v:V}{F:Nat->List V->Prop}{P:Prop}(k:match v with | .ref a=>(match st[a]? with |some (.list xs)=>F a xs |_=>False) |_=>False)(h:∀a xs,v= .ref a->st[a]? =some (.list xs)->F a xs->P):P:=by
 cases v<;>first |exact False.elim k |exact KG k λxs e k=>h _ xs rfl e k
set_option tactic.hygienic true in
def KH{v:V}{st:St}{f:Nat}{F G:Nat->Nat->Prop}(k:match (generalizing:=false) v with | .ref a=>(match st[a]? with |some (.inst b j)=>(match j.lookup f,fj b f with |none,some g=>F a g |_,_=>False) |_=>False) |_=>False)(h:∀a g,F a g->G a g):
  match (generalizing:=false) v with | .ref a=>(match st[a]? with |some (.inst b j)=>(match j.lookup f,fj b f with |none,some g=>G a g |_,_=>False) |_=>False) |_=>False:=by
 cases v<;>first |exact False.elim k |skip
 rename_i a;dsimp only at k ⊢
 cases e:st[a]? with
 |none=>rw [e]at k;exact False.elim k
 |some o=>
  rw [e]at k;cases o<;>first |exact False.elim k |skip
  rename_i b j;dsimp only at k ⊢
  cases e1:j.lookup f with
  |some _=>rw [e1]at k;exact False.elim k
  |none=>cases e2:fj b f with
   |none=>rw [e1,e2]at k;exact False.elim k
   |some g=>rw [e1,e2]at k;exact h _ g k
def So(o i:V)(st:St)(K:KV):Prop:=match o,i with
 | .ref a,.int k=>match st[a]? with
  |some (.list xs)=>(-(2^62)<k/\k<2^62)/\(match xs[(if k<0 then k+xs.length else k).toNat]? with
   |some v=>0<=(if k<0 then k+xs.length else k)/\K v st
   |none=>False)
  |_=>False
 | .tup l,.int k=>0<=k/\k<2^62/\(match l[k.toNat]? with
  |some v=>K v st
  |none=>False)
 | .ref a,.str n=>match st[a]? with
  |some (.dict es)=>match es.lookup n with
   |some v=>n<NS/\K v st
   |none=>False
  |_=>False
 |_,_=>False
set_option tactic.hygienic true in
def N_{o i:V}{st:St}{K:KV}{P:V->V->Prop}(k:So o i st K)(g:∀(a:Nat) (k:Int) (xs:List V) v,st[a]? =some (.list xs)->(-(2^62)<k/\k<2^62)->xs[(if k<0 then k+xs.length else k).toNat]? =some v->0<=(if k<0 then k+xs.length else k)->K v st->P (.ref a) (.int k))
  (b:∀(l:List V) (k:Int) v,0<=k/\k<2^62->l[k.toNat]? =some v->K v st->P (.tup l) (.int k)) (f:∀(a n:Nat) es v,st[a]? =some (.dict es)->es.lookup n=some v->n<NS->K v st->P (.ref a) (.str n)):P o i:=by
 cases o<;>first |exact False.elim k |skip
 all_goals cases i<;>first |exact False.elim k |skip
 .rename_i a j;refine KG k λxs e k=> ?_;have k2:=k.2;generalize ev:xs[(if j<0 then j+(xs.length:Int)else j).toNat]? =z at k2
  cases z with
  |none=>exact False.elim k2
  |some v=>exact g _ _ xs v e k.1 ev k2.1 k2.2
 .rename_i a n;replace k:(match st[a]? with |some (.dict es)=>(match es.lookup n with |some v=>n<NS/\K v st |none=>False) |_=>False):=k
  cases e:st[a]? with
  |none=>rw [e]at k;exact False.elim k
  |some o=>
   rw [e]at k;cases o<;>first |exact False.elim k |skip
   rename_i es;replace k:(match es.lookup n with |some v=>n<NS/\K v st |none=>False):=k;generalize ev:es.lookup n=z at k
   cases z with
   |none=>exact False.elim k
   |some v=>exact f _ _ _ v e ev k.1 k.2
 .rename_i l j;have k2:=k.2.2;generalize ev:l[j.toNat]? =z at k2
  cases z with
  |none=>exact False.elim k2
  |some v=>exact b _ _ v ⟨k.1,k.2.1⟩ ev k2
@[elab_as_elim] def cH.qL{ρ:dM}{h:Heap}{v:V}{a:List Value}{P:List Value->Prop}(x:cH ρ h [v] a)(k:∀w,VR ρ h v w->P [w]):P a:=cH.fO x λw r p q=>cH.jL q (k w p)
set_option tactic.hygienic true in
def m_{a:Ctx}{i:Nat}{x:Str}(h:jM a i x=true):∃k,a.sl[i]? =some (some (x,k)):=by
 unfold jM at h;split at h
 .rename_i y k e;rw [beq_iff_eq]at h;subst h;exact⟨k,e⟩
 .cases h
structure SL (c:Cfg) (d:Nat) (C:aR) (env:Env) (Γ:Ctx) (as:IL) (rs:List Expr):Prop where
 row:∀m st K,vL C as m st K->WL c d env Γ rs m st K
 dh:0<fh as->∀m st K,iB C as m st K->Nt c d env Γ .And rs m st K
 qP:0<fh as->∀m st K,CH C as m st K->Nt c d env Γ .Or rs m st K
 QH:∀m st KB,iB C as m st (tr KB)->Lv c d env Γ .And rs m st KB
 TF:0<fh as->∀m st KB,CH C as m st (tr KB)->Lv c d env Γ .Or rs m st KB
 tests:∀m st KB,iB C as m st (tr KB)->WF c d env Γ rs m st KB
 pairs:∀ks keys,keysOk ks keys=true->fh as=ks.length->∀m st K,vL C as m st K->WP c d env Γ keys rs ks m st K
def uo{k:Nat}{e:List Nat}{a:List (Option Expr)}{P:List (Option Expr)->Prop}(h:keysOk (k::e) a=true)(q:∀n p r,k<NS->keysOk e r=true->P (some (.Constant (.str (sn k)) n p)::r)):P a:=
 J1 h λb es h=>qI (P:=λt=>P (t::es)) h λb h=>kW (P:=λt=>P (some t::es)) h λb n p h=>Hi (P:=λt=>P (some (.Constant t n p)::es)) h λb h=>
  eq_of_beq (b1 (b1 h))▸q n p es (of_decide_eq_true (b2 (b1 h))) (b2 h)
def Hy:∀{b:List Nat} {a:List (Option Expr)},keysOk b a=true->a.length=b.length/\a.all (·.isSome)=true/\∀k ∈ b,k<NS:=by
 intro zl
 induction zl with
 |nil=>
  intro a h;exact fG (P:=λa=>a.length=0/\a.all (·.isSome)=true/\∀k ∈([]:List Nat),k<NS) h λg=>⟨rfl,rfl,λg h=>absurd h (tK)⟩
 |cons k b o=>
  intro a h;exact uo (P:=λa=>a.length=b.length+1/\a.all (·.isSome)=true/\∀j ∈ k::b,j<NS) h λn p r m l=>by
   have i:=o l;refine⟨congrArg (·+1) i.1,i.2.1,λj e=> ?_⟩;refine a_ (List.mem_cons.mp e) (λf=> ?_) λe=> ?_
   any_goals subst f
   .exact m
   .exact i.2.2 j e
variable(T:fT c)(hC:oq c d C)
include T hC
mutual
theorem sE(e:IE)(r:Expr)(env:Env)(Γ:Ctx)(h:aO Γ e r=true):SE c d C env Γ e r:=by
 match e with
 | .stuck=>exact⟨λm st K k=>k.elim,λm st K k=>k.elim⟩
 | .l i=>
  refine J2 h λx pos j q=> ?_;obtain ⟨kd,es⟩:=m_ (i:=i) (by unfold jM;exact q);refine .plain rfl λm st K k=> ?_
  cases em:m[i]? with
  |none=>replace k:(match m[i]? with |some (some v)=>K v st |_=>False):=k;rw [em]at k;exact k.elim
  |some o=>
   replace k:(match m[i]? with |some (some v)=>K v st |_=>False):=k;rw [em]at k
   cases o with
   |none=>exact k.elim
   |some v=>exact QI es j em k
 | .t v=>
  refine J3 h λk n pos h=> ?_;exact .plain rfl λm st K k=>LH h k
 | .g g=>
  refine Hj h λx pos j q=> ?_;refine fD (kX q) λg1 g2 g3=> ?_;refine aB (T.gv g j) λw hw vw=> ?_;exact .plain rfl λm st K k=>WE.Dz T g3 g2 (g1▸hw) (λρ hh tk=>vw.mono (List.nil_prefix) tk) k
 | .neg n=>
  refine J4 h λi k p pos h=> ?_;subst h;exact .plain rfl λm st K k=>Qn k
 | .attr e f=>
  refine Hl h λr x pos j q N M=> ?_;have H:=sE e r env Γ M;exact .plain rfl λm st K k=>Np T j q N (H.val m st _ k) λv st k=>k
 | .call f Y=>
  refine Ho h λx np args pos j q N M=> ?_;refine fD (kX N) λg1 g2 g3=> ?_;have U:=sL Y args env Γ M;exact .plain rfl λm st K k=>Nn T hC j g1 q g3 g2 (ja M) (U.row m st _ k) λvs st k=>k
 | .new k Y=>
  refine J5 h λx np args pos j N M=> ?_;refine fD (kX N) λg1 g2 g3=> ?_;have U:=sL Y args env Γ M;exact .plain rfl λm st K k=>Qj T hC j g1 g3 g2 (ja M) (U.row m st _ k) λvs st k=>k
 | .kN e f Y=>
  refine Hp h λr x ap args p j q N M h5 h6 h7=> ?_;have H:=sE e r env Γ h6;have U:=sL Y args env Γ h7;refine .plain rfl λm st K k=>Nq T hC j q N (ja h7) M (by simp [h5]) (H.val m st _ k) (λa g vs st=>C g (.ref a::vs) st K) λv st k=>KH k λa g k=>⟨k.1,U.row m st _ k.2,λvs st k=>k⟩
 | .append e x=>
  refine AY h λr n ap a p j e1 N M h5=> ?_;subst e1;have H:=sE e r env Γ M;have ix:=sE x a env Γ h5;refine .plain rfl λm st K k=>xD j (by simp [bX h5]) (zb rfl) (by simp [N]) PySem.F.slot_list_append PySem.F.type_list_append (H.val m st _ k)
   (λi vs st=>∃v,vs=[v]/\match st[i]? with
    |some (.list xs)=>xs.length<big/\K .none (st.set i (.list (xs++ [v])))
    |_=>False) (λv st k=> ?_) ?_
  .exact vA k λi xs e D k=>⟨i,xs,e,D,qK (bX h5) (ix.val m st _ k)⟩
  .rintro i vs st A ρ s w ws Q E ⟨v,rfl,k⟩ hA ho hw J G
   refine cH.qL J λw a=> ?_;exact KG k λxs D k=>qZ ho hw a D k.1 k.2 G
 | .extend e x=>
  refine AZ h λr n ap a p j e1 N M h5=> ?_;subst e1;have H:=sE e r env Γ M;have ix:=sE x a env Γ h5;refine .plain rfl λm st K k=>xD j (by simp [bX h5]) (zb rfl) (by simp [N]) PySem.F.slot_list_extend PySem.F.type_list_extend (H.val m st _ k)
   (λa vs st=>∃v,vs=[v]/\match v with
    | .ref b=>match st[a]?,st[b]? with
     |some (.list xs),some (.list ys)=>(a≠b/\xs.length+ys.length<=big)/\K .none (st.set a (.list (xs++ys)))
     |_,_=>False
    |_=>False) (λv st k=> ?_) ?_
  .exact vA k λi xs e D k=>⟨i,xs,e,D,qK (bX h5) (ix.val m st _ k)⟩
  .rintro i vs st A ρ s w ws Q E ⟨v,rfl,k⟩ hA ho hw J G
   refine cH.qL J λw a=> ?_;cases v<;>try exact k.elim
   dsimp only at k;split at k
   .rename_i xs ys D b6;exact zE ho hw a D b6 k.1 k.2 G
   .exact k.elim
 | .pop e=>
  refine J6 h λr n ap p j e1 N M=> ?_;subst e1;have H:=sE e r env Γ M;refine .plain rfl λm st K k=>xD j (by simp) (by simp) (by simp [N]) PySem.F.slot_list_pop PySem.F.type_list_pop (H.val m st _ k)
   (λi vs st=>vs=[]/\match st[i]? with
    |some (.list xs)=>(match xs.getLast? with
     |some v=>K v (st.set i (.list xs.dropLast))
     |none=>False)
    |_=>False) (λv st k=> ?_) ?_
  .exact vA k λi xs e D k=>⟨i,xs,e,D,AH ⟨rfl,by rw [D];exact k⟩⟩
  .rintro i vs st A ρ s w ws Q E ⟨rfl,k⟩ hA ho hw J G
   refine cH.jL J ?_;exact KG k λxs D k=>by
    generalize J:xs.getLast? =z at k
    cases z with
    |none=>exact False.elim k
    |some v=>exact Hz ho hw D J k G
 | .len e=>
  refine J7 h λx np a pos j q=> ?_;refine fD (kX j) λg1 g2 g3=> ?_;have H:=sE e a env Γ q;subst g1;refine .plain rfl λm st K k=>xE T (T.gb "len" (.head _)) g3 g2 (by simp [bX q]) (qK (bX q) (H.val m st _ k)) ?_
  rintro vs st A ρ s ws Q E ⟨v,rfl,k⟩ hA ho J G
  refine cH.qL J λw a=> ?_;exact vA k λi xs e D k=>HA ho (e▸a) D k G
 | .sorted e=>
  refine A0 h λx np a pos j q=> ?_;refine fD (kX j) λg1 g2 g3=> ?_;have H:=sE e a env Γ q;subst g1;refine .plain rfl λm st K k=>xE T (T.gb "sorted" (.tail _ (.head _))) g3 g2 (by simp [bX q]) (qK (bX q) (H.val m st _ k)) ?_
  rintro vs st A ρ s ws Q E ⟨v,rfl,k⟩ hA ho J G
  refine cH.qL J λw a=> ?_;exact vA k λi xs e D k=>by
    generalize b6:pq xs=z at k
    cases z with
    |none=>exact False.elim k
    |some ys=>exact zv hA ho (e▸a) D b6 k G
 | .yD e=>
  refine J8 h λx np a pos j q=> ?_;refine fD (kX j) λg1 g2 g3=> ?_;have H:=sE e a env Γ q;subst g1;refine .plain rfl λm st K k=>xE T (T.gb "any" (by decide)) g3 g2 (by simp [bX q]) (qK (bX q) (H.val m st _ k)) ?_
  rintro vs st A ρ s ws Q E ⟨v,rfl,k⟩ hA ho J G
  refine cH.qL J λw a=> ?_;exact vA k λi xs e D k=>by
    generalize c4:iM xs=z at k
    cases z with
    |none=>exact False.elim k
    |some bs=>exact HB hA ho (e▸a) D c4 k G
 | .qz e=>
  refine A1 h λx np a pos j q=> ?_;refine fD (kX j) λg1 g2 g3=> ?_;have H:=sE e a env Γ q;subst g1;refine .plain rfl λm st K k=>JL T (T.gt "list" (.head _)) g3 g2 (by simp [bX q]) (qK (bX q) (H.val m st _ k)) ?_
  rintro vs st A ρ s ws Q E ⟨v,rfl,k⟩ hA ho J G
  refine cH.qL J λw a=> ?_;cases v<;>try exact k.elim
  exact zF ho a k.1 k.2 G
 | .bin op a b=>
  refine J9 h λl o r pos e0 j q=> ?_;subst e0;have ia:=sE a l env Γ j;have ib:=sE b r env Γ q;refine .plain rfl λm st K k=>JN (ia.val m st _ k) (λx st k=>ib.val m st _ k) ?_;intro A ρ s Q E st x y wx wy hA ho hx hy k G;exact HC (by cases op<;>rfl) ho hx hy k G
 | .cmp op a b=>
  refine J_ h λl o r pos e0 hm j q=> ?_;subst e0;have ia:=sE a l env Γ j;have ib:=sE b r env Γ q;have a3:∀K,Lw c d (compareOp (Sj op)) (λx y st=>j5 op x y st K) K:=λK A ρ s Q E st x y wx wy hA ho hx hy k G=>HD (by cases op<;>rfl) hA ho hx hy k G;exact⟨λm st K k=>qD hm (ia.val m st _ k) (λx st k=>ib.val m st _ k) (a3 K),λm st KB k=>oz hm (ia.val m st _ k) (λx st k=>ib.val m st _ k) (a3 _)⟩
 | .p_ neg e=>
  refine J' h λl o n p pos e0 j=> ?_;subst e0;have H:=sE e l env Γ j;have hm:behindInMarks (if neg then CmpOp.IsNot else .Is) (.Constant .none n p)=false:=rfl;have a3:∀K:KV,Lw c d (compareOp (if neg then .IsNot else .Is)) (λx y st=>y= .none/\match x with | .none=>K (.bool (!neg)) st |_=>K (.bool neg) st) K:=by
   rintro K A ρ s Q E st x y wx wy hA ho hx hy ⟨rfl,k⟩ G
   cases hy;exact HF k ho hx G
  have hr:∀(K:KV) (m:Loc) (x:V) (st:St),(match x with | .none=>K (.bool (!neg)) st |_=>K (.bool neg) st)->WE c d env Γ (.Constant .none n p) m st λy st=>y= .none/\match x with | .none=>K (.bool (!neg)) st |_=>K (.bool neg) st:=
   λK m x st k=>LH (v:= .none) rfl ⟨rfl,k⟩
  exact⟨λm st K k=>qD hm (H.val m st _ k) (λx st k=>hr K m x st k) (a3 K),λm st KB k=>oz hm (H.val m st _ k) (λx st k=>hr (tr KB) m x st k) (a3 _)⟩
 | .D0 e t=>
  refine Kc h λl o r pos e0 hm j q=> ?_;subst e0;have ia:=sE e l env Γ j;have ib:=sE t r env Γ q;have a3:∀K:KV,Lw c d (compareOp .In) (λv w st=>match v,w with
   | .int i,.tup l=>match gK l with
    |some is=>K (.bool (is.contains i)) st
    |none=>False
   | .tup l,.ref a=>match st[a]? with
    |some (.dict [])=>jP 3 (.tup l)=true/\K (.bool false) st
    |some (.dU es)=>jP 3 (.tup l)=true/\K (.bool (es.any λe=>decide (e.1=l))) st
    |_=>False
   |_,_=>False) K:=by
   intro K A ρ s Q E st x y wx wy hA ho hx hy k G;cases x<;>first |exact k.elim |skip
   all_goals (cases y<;>first |exact k.elim |skip)
   .cases hx;dsimp only at k;split at k
    .rename_i is hi;exact HG ho hy hi k G
    .exact k.elim
   .exact GN T hA ho hx hy k G
  exact⟨λm st K k=>qD hm (ia.val m st _ k) (λx st k=>ib.val m st _ k) (a3 K),λm st KB k=>oz hm (ia.val m st _ k) (λx st k=>ib.val m st _ k) (a3 _)⟩
 | .dh Y=>
  refine Kd h λrs pos j q=> ?_;have U:=sL Y rs env Γ q;exact⟨λm st K k=>yZ (U.dh j m st K k),λm st KB k=>vh (U.QH m st KB k)⟩
 | .qP Y=>
  refine N5 h λrs pos j q=> ?_;have U:=sL Y rs env Γ q;exact⟨λm st K k=>yZ (U.qP j m st K k),λm st KB k=>vh (U.TF j m st KB k)⟩
 | .ng e=>
  refine Ke h λx pos h=> ?_;have H:=sE e x env Γ h;refine⟨λm st K k=>Ql (H.val m st _ k),λm st KB k=>Nu (H.test m st _ ?_)⟩;exact k
 | .ite c' a b=>
  refine Kf h λt x y pos j q N=> ?_;have ic:=sE c' t env Γ j;have ia:=sE a x env Γ q;have ib:=sE b y env Γ N;exact⟨λm st K k=>Qk (KT:=λt st=>match t with |true=>vE C a m st K |false=>vE C b m st K) (ic.test m st _ k) (λst k=>ia.val m st K k) (λst k=>ib.val m st K k),
   λm st KB k=>Nv (KC:=λt st=>match t with |true=>vE C a m st (tr KB) |false=>vE C b m st (tr KB)) (ic.test m st _ k) (λst k=>ia.test m st KB k) (λst k=>ib.test m st KB k)⟩
 | .sub o i=>
  refine Kg h λx y pos j q=> ?_;have io:=sE o x env Γ j;have ii:=sE i y env Γ q;refine .plain rfl λm st K k=>Qo (io.val m st _ k) (λv st k=>ii.val m st _ k) ?_;intro A ρ s Q E st v u wv wu hA ho J hu k G;revert J hu;refine N_ (P:=λv u=>VR ρ s.heap v wv->VR ρ s.heap u wu->wpAny (model pw c.w) A (PyProof.Rows.subscriptTail x y wv wu) Q E s) (K:=K) (st:=st) k (λa k xs z D k1 hz k2 kz J hu=>VR.gC hu λt=>uH ho J D k1 hz k2 kz G) (λl k z k1 hz kz J hu=>VR.gC hu λt=>xQ ho J k1 hz kz G) (λa n es z c9 hz hn kz J hu=>VR.AF hu λt=>uI ho J c9 hn hz kz G)
 | .Ni o a=>
  refine Kh h λx y p pos j q=> ?_;have io:=sE o x env Γ j;have ia:=sE a y env Γ q;exact .plain rfl λm st K k=>Qp (io.val m st _ k) (λv st k=>ia.val m st _ k) λv u st k=>k
 | .Nj o a=>
  refine Km h λx y p pos j q=> ?_;have io:=sE o x env Γ j;have ia:=sE a y env Γ q;exact .plain rfl λm st K k=>Qq (io.val m st _ k) (λv st k=>ia.val m st _ k) λv u st k=>k
 | .Ox o a b=>
  refine Ko h λx y z p pos j q N=> ?_;have io:=sE o x env Γ j;have ia:=sE a y env Γ q;have ib:=sE b z env Γ N;exact .plain rfl λm st K k=>Qs (io.val m st _ k) (λv st k=>ia.val m st _ k) (λv u st k=>ib.val m st _ k) λv u t st k=>k
 | .list Y=>
  refine Hq h λrs pos h=> ?_;have U:=sL Y rs env Γ h;exact .plain rfl λm st K k=>Nr (U.row m st _ k) λvs st k=>k
 | .tup Y=>
  refine Kp h λrs kk pos j q=> ?_;have U:=sL Y rs env Γ q;exact .plain rfl λm st K k=>JM (U.row m st _ k) j λvs st k=>k
 | .dict ks Y=>
  refine Hr h λc0 aZ pos j q N M h5=> ?_;have U:=sL Y aZ env Γ h5;refine fD (Hy j) λj1 j2 j3=> ?_;refine .plain rfl λm st K k=> ?_
  cases ks with
  |nil=>
   cases c0 with
   |cons _ _=>simp at j1
   |nil=>
    have hl:=pW h5;rw [M]at hl
    cases aZ with
    |cons _ _=>simp at hl
    |nil=>
     cases Y with
     |c _ _=>simp [fh]at M
     |z=>exact JO k.2
  |cons k0 ks=>
   exact Ny (U.pairs _ _ j M m st _ k) j2 (by rw [j1,pW h5,M]) j1 (by rintro rfl;simp at j1) N q j3 λvs st k=>k
 | .comp d1 i it cond=>
  refine Hs h λr' y yp d6 c7 a e2 pos e0 j q N M h5=> ?_;subst e0;have iI:=sI it d6 env Γ N;refine .plain rfl λm st K k=>NG (l0.of j) (λL st m' KK k=>(sE d1 r' _ _ M).val m' st KK k) (λL st m' KK k=>(sL cond c7 _ _ h5).tests m' st KK k) (fold_plain q env) (iI m st _ k) λI st k=>k
theorem sL(g:IL)(rs:List Expr)(env:Env)(x:Ctx)(h:jg x g rs=true):SL c d C env x g rs:=by
 match g,rs,h with
 | .z,[],h=>
  refine⟨λm st K k=>AH k,λl=>absurd l (by simp [fh]),λl=>absurd l (by simp [fh]),λm st KB k=>xG ?_,λl=>absurd l (by simp [fh]),λm st KB k=>Gy ?_,λj a w t m st K k=> ?_⟩
  .refine aB (zD k) λb e z=> ?_;cases e;exact z
  .refine aB (zD k) λb e z=> ?_;cases e;exact z
  .cases j with
   |cons _ _=>simp [fh]at t
   |nil=>cases a with
    |cons _ _=>exact ff w
    |nil=>exact Nx k
 | .c e .z,r::rs,h=>
  have f:=sE e r env x (b1 h);have q:=sL .z rs env x (b2 h);have A:rs=[]:=by
   have:=pW (b2 h);exact List.length_eq_zero_iff.mp this
  have y:=bX (b1 h);subst A;refine⟨λm st K k=>xF y (f.val m st _ k) λv st k=>q.row m st _ k,λl m st K k=>B_ (f.val m st K k),λl m st K k=>B_ (f.val m st K k),
   λm st KB k=>pP (f.test m st KB k) λb st k=> ?_,λl m st KB k=>pP (f.test m st KB k) λb st k=> ?_,λm st KB k=>Cb (f.test m st KB k) λb st k=> ?_,λj a w t m st K k=> ?_⟩
  .cases b
   .exact k
   .exact xG k
  .cases b
   .exact xG k
   .exact k
  .cases b
   .exact k
   .exact Gy k
  .cases j with
   |nil=>simp [fh]at t
   |cons k0 j=>
    refine uo (P:=λa=>WP c d env x a _ (k0::j) m st K) w λn p a u w=> ?_;exact Ca (f.val m st _ k) λv st k=>q.pairs j a w (by simp only [fh,cV]at t ⊢;exact iW (cD λu=>bx (CC _) (AN aE aA) oW u rfl) (cD λu=>bx (CC _) (AN (AN aE aA) aA) (AN aA aE) (aH (zf t) u) rfl)) m st _ k
 | .c e (.c o g),r::rs,h=>
  have f:=sE e r env x (b1 h);have y:=bX (b1 h)
  cases rs with
  |nil=>exact ff (b2 h)
  |cons D rs=>
  have q:=sL (.c o g) (D::rs) env x (b2 h);have pos:0<fh (.c o g):=by simp [fh]
  refine⟨λm st K k=>xF y (f.val m st _ k) λv st k=>q.row m st _ k,λl m st K k=>yY (f.val m st _ k) λv st k=> ?_,λl m st K k=>yY (f.val m st _ k) λv st k=> ?_,
   λm st KB k=>pP (KE:=λb st=>if b=true then iB C (.c o g) m st (tr KB)else KB false st) (f.test m st _ ?_) λb st k=> ?_,
   λl m st KB k=>pP (KE:=λb st=>if b=false then CH C (.c o g) m st (tr KB)else KB true st) (f.test m st _ ?_) λb st k=> ?_,
   λm st KB k=>Cb (KE:=λb st=>if b=true then iB C (.c o g) m st (tr KB)else KB false st) (f.test m st _ ?_) λb st k=> ?_,λj a w t m st K k=> ?_⟩
  .cases e:bY st v with
   |none=>rw [e]at k;exact k.elim
   |some b=>
    rw [e]at k;cases b
    .exact⟨false,rfl,k⟩
    .exact⟨true,rfl,q.dh pos m st K k⟩
  .cases e:bY st v with
   |none=>rw [e]at k;exact k.elim
   |some b=>
    rw [e]at k;cases b
    .exact⟨false,rfl,q.qP pos m st K k⟩
    .exact⟨true,rfl,k⟩
  .have e:(λv st=>match bY st v with
    |some true=>iB C (.c o g) m st (tr KB)
    |some false=>tr KB v st
    |none=>False)=tr λb st=>if b=true then iB C (.c o g) m st (tr KB)else KB false st:=by
    funext v st
    unfold tr
    cases ht:bY st v with
    |none=>rfl
    |some b=>cases b<;>simp
   rw [<-e];exact k
  .cases b
   .simpa using k
   .simp only [if_true]at k;exact q.QH m st KB k
  .have e:(λv st=>match bY st v with
    |some false=>CH C (.c o g) m st (tr KB)
    |some true=>tr KB v st
    |none=>False)=tr λb st=>if b=false then CH C (.c o g) m st (tr KB)else KB true st:=by
    funext v st
    unfold tr
    cases ht:bY st v with
    |none=>rfl
    |some b=>cases b<;>simp
   rw [<-e];exact k
  .cases b
   .simp only [if_true]at k;exact q.TF pos m st KB k
   .simpa using k
  .have e:(λv st=>match bY st v with
    |some true=>iB C (.c o g) m st (tr KB)
    |some false=>tr KB v st
    |none=>False)=tr λb st=>if b=true then iB C (.c o g) m st (tr KB)else KB false st:=by
    funext v st
    unfold tr
    cases ht:bY st v with
    |none=>rfl
    |some b=>cases b<;>simp
   rw [<-e];exact k
  .cases b
   .simpa using k
   .simp only [if_true]at k ⊢;exact q.tests m st KB k
  .cases j with
   |nil=>simp [fh]at t
   |cons k0 j=>
    refine uo (P:=λa=>WP c d env x a _ (k0::j) m st K) w λn p a u w=> ?_;exact Ca (f.val m st _ k) λv st k=>q.pairs j a w (by simp only [fh,cV]at t ⊢;exact iW (cD λu=>bx (fL _ _) (AN (AN aE (.num 2)) (AN aI aA)) (AN (AN aI aA) (AN aE aA)) (aH (ze t) u) rfl) (cD λu=>bx (fL _ _) (AN (AN aI aA) (AN (AN aE aA) aA)) (AN (AN aE (.num 2)) aI) (aH (zf t) u) rfl)) m st _ k
 | .z,_::_,h=>exact ff h
 | .c _ _,[],h=>exact ff h
theorem sI(j:II)(r:Expr)(env:Env)(a:Ctx)(h:uG a j r=true):∀m st f,vI C j m st f->WI c d env a r m st f:=by
 match j with
 | .seq e=>
  intro m st f k;exact Nz ((sE e r env a h).val m st _ k) λv st k=>k
 | .range n=>
  intro m st f k;refine DQ (P:=λr=>WI c d env a r m st f) h λb b b b l g=> ?_;refine fD (kX l) λg1 g2 g3=> ?_;subst g1;exact GB T g3 (ja g) ((sL n _ env a g).row m st _ k) λvs st k=>k
 | .rev e=>
  intro m st f k;refine Kq (P:=λr=>WI c d env a r m st f) h λb b b b l g=> ?_;refine fD (kX l) λg1 g2 g3=> ?_;subst g1;exact NB T g3 (bX g) ((sE e _ env a g).val m st _ k) λv st k=>k
end
end
abbrev QJ(i:Nat)(op:uF)(m:Loc)(K:KS)(x y:V)(st:St):Prop:=match op,x,y with
 | .add,.int a,.int b=>K .next (m.set i (some (.int (a+b)))) st
 | .sub,.int a,.int b=>K .next (m.set i (some (.int (a-b)))) st
 |_,_,_=>False
def Oa{C:aR}{i:Nat}{op:uF}{e:IE}{m:Loc}{st:St}{K:KS}{P:Prop}(k:vS C (.aug i op e) m st K)(f:∀x,m[i]? =some (some x)->vE C e m st (λy st=>QJ i op m K x y st)->P):P:=by
 replace k:(match m[i]? with
  |some (some x)=>vE C e m st λy st=>QJ i op m K x y st
  |_=>False):=k
 cases hm:m[i]? with
 |none=>rw [hm]at k;exact k.elim
 |some o=>
  rw [hm]at k
  cases o with
  |none=>exact k.elim
  |some x=>exact f x hm k
def SS(c:Cfg)(d:Nat)(C:aR)(env:Env)(a:Ctx)(i:IS)(r:Stmt):Prop:=∀m st K,vS C i m st K->WS c d env a r m st K
def KJ{g:Ctx}{l:IE}{i:Nat}{n:II}{cond:IL}{r:Expr}{j:List Comprehension}{b:Scope}{pos:Pos}{P:List Comprehension->Prop}(h:aO g (.comp l i n cond) (.ListComp r j b pos)=true)
  (k:∀y m e f,tW g b i y=true->mh e=true->uG g n e=true->aO (dH g b i y) l r=true->jg (dH g b i y) cond f=true->P [⟨.Name y m,e,f,0⟩]):P j:=
 eL h λo h=>zB (P:=λt=>P [t]) h λo e f a h=>cU (P:=λt=>P [⟨t,e,f,a⟩]) h λy m h=>
  (eq_of_beq (b1 (b1 (b1 (b1 (b1 h)))))).symm▸k y m e f (b2 (b1 (b1 (b1 (b1 h))))) (b2 (b1 (b1 (b1 h)))) (b2 (b1 (b1 h))) (b2 (b1 h)) (b2 h)
section
variable{c:Cfg}{d:Nat}{C:aR}
def DU{g:Ctx}{env:Env}{ρ:dM}{m:Loc}{h:Heap}{x:Str}{f b p:Pos}{j:Expr}{e:List Comprehension}{a:Scope}(l:bk c env g ρ m h)(o:xP g x f a b=true):swapsWith (.ListComp j e a b) (some (.Name x f)) p.line env=pure true:=by
 unfold xP at o;have e1:env.kindOf x=g.nm.lookup x:=by unfold Env.kindOf;rw [l.nm]
 have e2:env.blockKind= .function:=by unfold Env.blockKind;rw [l.kind];rfl
 show(pure (env.blockKind== .function&&env.kindOf x==some .local&&f.line==b.line&& !(a.names.any λ(n,k)=>n==x&&(k== .local||k== .cell))):Sem Bool)=pure true;rw [e1,e2];simp only [beq_self_eq_true,uA];rw [o]
def HH{l:Ctx}{e:IE}{x:Str}{k:Pos}{v:Expr}{P:IE->Expr->Prop}(h:Cq l e x k v=true)(k1:mY v=true->P e v)
  (k2:∀f i m cond r j a b,xP l x k a b=true->P (.comp f i m cond) (.ListComp r j a b)):P e v:=by
 unfold Cq at h
 cases hc:Sn e with
 |false=>rw [hc]at h;exact k1 h
 |true=>
  rw [hc]at h;exact N4 (P:=λe=>P e v) hc λf i m cd=>vz h λr g s p h=>k2 _ _ _ _ _ _ _ _ h
def DV{env:Env}{a:Ctx}{r:Stmt}{m:Loc}{st:St}{K:KS}(h:(∃ρ hh,bk c env a ρ m hh)->WS c d env a r m st K):WS c d env a r m st K:=λA ρ s Q E g e b f=>h ⟨ρ,s.heap,b⟩ A ρ s Q E g e b f
def KN{env:Env}{e:Ctx}{r:Stmt}{m:Loc}{st:St}{K f:KS}(n:∀fl m st,K fl m st->f fl m st)(h:WS c d env e r m st K):WS c d env e r m st f:=
 λA ρ s Q E p j g l=>h A ρ s Q E p j g λfl m' b a h' o xW k=>l fl m' b a h' o xW (n _ _ _ k)
variable(T:fT c)(hC:oq c d C)
include T hC
mutual
theorem sS(i:IS)(r:Stmt)(env:Env)(a:Ctx)(h:nq a i r=true):SS c d C env a i r:=by
 match i with
 | .a i e=>
  refine Kr h λx Y v p l g q=> ?_;obtain ⟨kx,hx⟩:=m_ l;intro m st K k;refine HH (P:=λe v=>(∀env a,aO a e v=true->SE c d C env a e v)->aO a e v=true->vS C (.a i e) m st K->WS c d env a (.Assign [.Name x Y] v p) m st K) q (λhn ie g k=> ?_) (λa9 j U cond r G a0 a4 a7 zz g k=> ?_) (λenv a h=>sE T hC e v env a h) g k
  .exact Qu hx (t7 hn _ _ _) ((ie env a g).val m st _ k)
  .refine KJ (P:=λG=>WS c d env a (.Assign [.Name x Y] (.ListComp r G a0 a4) p) m st K) g λy yp u a6 g1 g2 g3 g4 g5=> ?_;refine DV λ⟨ρ,hh,M⟩=> ?_;exact NH (l0.of g1) (DU M a7) hx (λL st m' KK k=>(sE T hC a9 _ _ _ g4).val m' st KK k) (λL st m' KK k=>(sL T hC cond a6 _ _ g5).tests m' st KK k) (fold_plain g2 env) (sI T hC U u env a g3 m st _ k) λI st k=>k
 | .Lp is e=>
  refine Ku h λes kk tp v p l g q=> ?_;exact λm st K k=>Qv l g ((sE T hC e v env a q).val m st _ k)
 | .qU o f e=>
  refine DS h λt x tp v p l g q H=> ?_;exact λm st K k=>JR T l g ((sE T hC e v env a H).val m st _ k) (λv st k=>(sE T hC o t env a q).val m st _ k) λv o st k=>k
 | .sN o i e=>
  refine Ht h λt s tp v p l g q=> ?_;refine λm st K k=>NI ((sE T hC e v env a q).val m st _ k) (λv st k=>(sE T hC o t env a l).val m st _ k) (λv o st k=>(sE T hC i s env a g).val m st _ k) ?_;intro A ρ s Q E st v o i wv wo wi hA z hv J hi k D;cases o<;>first |exact k.elim |skip
  all_goals (cases i<;>first |exact k.elim |skip)
  .cases hi;dsimp only at k;split at k
   .rename_i xs a8;exact qM z J hv a8 k.1 λh' tk p o=>D _ h' tk k.2 p o
   .exact k.elim
  .cases hi;dsimp only at k;split at k
   .rename_i fs b0;exact qN z J hv b0 k.1 λh' tk p o=>D _ h' tk k.2 p o
   .exact k.elim
  .exact DF hA z J hi hv k D
 | .aug i op e=>
  refine Kv h λx Y o v p l e1 q=> ?_;subst e1;obtain ⟨kx,hx⟩:=m_ l;intro m st K k;exact Oa k λx' N k=>Qw (by cases op<;>rfl) hx N ((sE T hC e v env a q).val m st _ k) λy st k=>k
 | .ex e=>
  refine N6 h λv p l g=> ?_;exact λm st K k=>Sg l ((sE T hC e v env a g).val m st _ k)
 | .ret e=>
  refine Kw h λv p h=> ?_;exact λm st K k=>Qx ((sE T hC e v env a h).val m st _ k)
 | .AD=>
  refine Hu h λp=> ?_;exact λm st K k=>NJ k
 | .pass=>
  refine Hv h λp=> ?_;exact λm st K k=>NK k
 | .ite c' t f=>
  refine Ky h λx b o p l g q=> ?_;exact λm st K k=>Sh ((sE T hC c' x env a l).test m st _ k) (λst k=>sB t b env a g m st K k) (λst k=>sB f o env a q m st K k)
 | .gI i U b=>
  refine Kz h λx Y u body p l g q H=> ?_;obtain ⟨kx,hx⟩:=m_ l;refine λm st K k=>Lx (fold_plain g env) (sI T hC U u env a q m st _ k) ?_ (λm st K k=>sB b body env a H m st K k) λI st k=>k
  rintro A ρ s st m m' v w Q E hA N z M hv D
  cases N;exact PySem.wpAny_assign_Name (iF hx z M hv D)
 | .yv is U b=>
  refine Hw h λes kk tp u body p l g q H=> ?_;refine λm st K k=>Lx (fold_plain g env) (sI T hC U u env a q m st _ k) ?_ (λm st K k=>sB b body env a H m st K k) λI st k=>k;intro A ρ s st m m' v w Q E hA N z M hv D;exact tZ hA l N z M hv D
 | .gz c' b=>
  refine DT h λx body p l g=> ?_
  rintro m st K ⟨n,k⟩
  exact JT (λm st KB k=>(sE T hC c' x env a l).test m st KB k) (λm st K k=>sB b body env a g m st K k) k
theorem sB(b:IB)(rs:List Stmt)(env:Env)(a:Ctx)(h:oB a b rs=true):∀m st K,vB C b m st K->WB c d env a rs m st K:=by
 match b,rs,h with
 | .z,[],h=>exact λm st K k=>NF k
 | .c s b,r::rs,h=>
  replace h:(nq a s r&&oB a b rs)=true:=h;intro m st K k;refine JQ (KN (λfl m st k=> ?_) (sS s r env a (b1 h) m st _ k))
  cases fl with
  |next=>exact sB b rs env a (b2 h) m st K k
  |brk=>exact k
  |cont=>exact k
  |ret v=>exact k
 | .z,_::_,h=>exact ff h
 | .c _ _,[],h=>exact ff h
end
end
def oE(f:Nat):List Str:=((rE f).take (iR f)).filterMap λo=>o.map (·.1)
def xR(f:Nat)(names:List (Str×NameKind)):Bool:=
 i9 ⟨rE f,names⟩&&nI (names.map (·.1))&&decide ((oE f).length=iR f)&&((rE f).take (iR f)).all (·.isSome)&&decide (iR f<=QF f)
structure Ob (c:Cfg) (f:Nat) (o:Obj) (fd:FuncData) (body:List Stmt):Prop where
 at_:c.b0.get? (pN f)=some o
 data:o.data= .func fd
 HJ:fd.body= .stmts body
 kind:fd.scope.kind= .function
 co:fd.scope.isCoroutine=false
 gen:fd.scope.isGenerator=false
 glob:fd.globals=mainGlobals
 blt:fd.builtins=builtinsNs
 Ri:fd.closure=[]
 code:c.b0.CodeRec fd.code fd.qualname
 head:xR f fd.scope.names=true
 TG:oB ⟨rE f,fd.scope.names⟩ (Cu f) body=true
 bind:∀(s:Shared) (vs:List V) (ws:List Value) (ρ:dM) (h:Heap),(∀b o,c.b0.get? b=some o->s.heap.get? b=some o)->cH ρ h vs ws->(fill f vs).length=iR f->∃us,us.length=iR f/\cH ρ h (fill f vs) us/\BindsTo s fd ⟨ws,[]⟩ ((oE f).zip us)
section
variable{prog:Program}{w:World}{A:Around}{s:Shared}
def zG{R:Result->Shared->Prop}{a:Addr}{o:Obj}{b:FuncData}{body:List Stmt}{aZ:List Value}{binds:List (Str×Value)}
  (g:A.depth<recursionLimit) (u:s.heap.get? a=some o) (j:o.data= .func b) (n:s.heap.NoLimit) (t:s.heap.CodeRec b.code b.qualname)
  (k:b.body= .stmts body) (d:BindsTo s b ⟨aZ,[]⟩ binds) (p:b.closure=[])
  (e:∀x ∈ binds,b.scope.names.lookup x.1=some .local\/(b.scope.names.lookup x.1=some .cell/\((cellsFrom (s.heap.objs.size+1) b.scope.names []).lookup x.1).isSome=true))
  (h:∀c,InCallC s (callEnvC b s.heap.objs.size a).locals (bindL (callEnvC b s.heap.objs.size a).kindOf binds λy=>none) (callEnvC b s.heap.objs.size a).cells
    (bindC (callEnvC b s.heap.objs.size a).kindOf binds λy=>none) c->
   ∀E,wpAny (model prog w) (A.deeper (callEnvC b s.heap.objs.size a)) (execs body (callEnvC b s.heap.objs.size a)) (λf m=>R (.ok (.ret (match f with | .ret v=>v |_=> .none))) m) E c)
  (q:b.scope.isCoroutine=false) (l:b.scope.isGenerator=false) (z:b.scope.kind= .function):
  codeAny (model prog w) A (.call (.ref a) ⟨aZ,[]⟩) R s:=by
 refine codeAny_call_function g u j q l k t (d _ _ _ _ ?_);rw [p];refine wpAny_newFunctionEnv_cells z e λenv C m x=> ?_;subst C;exact⟨n.keeps x.toInCall.keep,codeAny_func (h m x _)⟩
end
theorem nJ:∀(names:List (Str×NameKind)) (n:Nat) (a:List (Str×Addr)) (p:Str×Addr),p ∈ cellsFrom n names a->p ∈ a\/(p.1,NameKind.cell) ∈ names
 | [],n,a,p,h=> .inl h
 |(x,k)::r,n,a,p,h=>by
  unfold cellsFrom at h;split at h
  .rename_i b;refine a_ (nJ r _ _ p h) (λh=> ?_) λh=> ?_
   .refine a_ (List.mem_cons.mp h) (λc=> ?_) λh=> ?_
    any_goals subst c
    .exact .inr (by rw [beq_iff_eq]at b;rw [<-b];exact cW)
    .exact .inl h
   .exact .inr (gh _ h)
  .exact(nJ r _ _ p h).imp_right (gh _)
theorem iQ:∀(names:List (Str×NameKind)) (n:Nat) (b:List (Str×Addr)) (x:Str),(x,NameKind.cell) ∈ names\/(∃a,(x,a) ∈ b)->∃a,(x,a) ∈ cellsFrom n names b
 | [],n,b,x,h=>h.elim (λz=>absurd z (tK)) id
 |(y,k)::r,n,b,x,h=>by
  unfold cellsFrom;split
  .refine iQ r _ _ x ?_;rcases h with h |⟨a,h⟩
   .rcases List.mem_cons.mp h with e |h
    .injection e with e1 e2;subst e1;exact .inr ⟨n,cW⟩
    .exact .inl h
   .exact .inr ⟨a,gh _ h⟩
  .rename_i c;refine iQ r _ _ x (h.imp_left λh=> ?_);rcases List.mem_cons.mp h with e |h
   .injection e with e1 e2;subst e2;exact absurd rfl c
   .exact h
theorem gp:∀(names:List (Str×NameKind)) (n:Nat) (a:List (Str×Addr)),(names.map (·.1)).Nodup->(a.map (·.1)).Nodup->(∀p ∈ a,p.1 ∉ names.map (·.1))->((cellsFrom n names a).map (·.1)).Nodup
 | [],n,a,_,h,_=>h
 |(x,k)::r,n,a,d,g,f=>by
  rw [cP,lG]at d;unfold cellsFrom;split
  .refine gp r _ _ d.2 ?_ ?_
   .rw [cP,lG];refine⟨λc=> ?_,g⟩;refine aB (List.mem_map.mp c) λp b e=> ?_;exact f p b (by rw [e];exact(.head _))
   .intro p b;rcases List.mem_cons.mp b with rfl |b
    .exact d.1
    .exact λc=>f p b (by rw [cP];exact gh _ c)
  .exact gp r _ _ d.2 g λp b c=>f p b (by rw [cP];exact gh _ c)
theorem gq{f:Type}:∀{l:List (Str×f)} {x:Str} {a:f},(l.map (·.1)).Nodup->(x,a) ∈ l->l.lookup x=some a
 |(y,b)::r,x,a,c,h=>by
  rw [cP,lG]at c;dsimp only [List.lookup_cons];refine a_ (List.mem_cons.mp h) (λe=> ?_) λd=> ?_
  .injection e with e1 e2;subst e1 e2;simp
  .have:(x==y)=false:=by
    simp only [beq_eq_false_iff_ne,ne_eq];intro z;exact c.1 (List.mem_map.mpr ⟨(x,a),d,z⟩)
   rw [this];exact gq c.2 d
theorem vC{a:Str->Option NameKind}{x:Str}{w:Value}(d:a x=some .local):∀{binds:List (Str×Value)} {m:Str->Option Value},(binds.map (·.1)).Nodup->(x,w) ∈ binds->bindL a binds m x=some w
 |(y,u)::r,m,c,h=>by
  have keep:∀(r:List (Str×Value)) (m:Str->Option Value),x ∉ r.map (·.1)->bindL a r m x=m x:=by
   intro r
   induction r with
   |nil=>intro m _;rfl
   |cons p r f=>
    intro m b;obtain ⟨z,q⟩:=p;simp only [cP,List.mem_cons,not_or]at b;unfold bindL;rw [f _ b.2];split
    .exact if_neg b.1
    .rfl
  rw [cP,lG]at c;unfold bindL;rcases List.mem_cons.mp h with e |h
  .injection e with e1 e2
   subst e1 e2;rw [keep r _ c.1,if_pos d];simp
  .exact vC d c.2 h
theorem vD{a:Str->Option NameKind}{x:Str}{w:Value}(d:a x=some .cell):∀{binds:List (Str×Value)} {m:Str->Option Value},(binds.map (·.1)).Nodup->(x,w) ∈ binds->bindC a binds m x=some w
 |(y,u)::r,m,c,h=>by
  have keep:∀(r:List (Str×Value)) (m:Str->Option Value),x ∉ r.map (·.1)->bindC a r m x=m x:=by
   intro r
   induction r with
   |nil=>intro m _;rfl
   |cons p r f=>
    intro m b;obtain ⟨z,q⟩:=p;simp only [cP,List.mem_cons,not_or]at b;unfold bindC;rw [f _ b.2];split
    .rfl
    .exact if_neg b.1
  rw [cP,lG]at c;unfold bindC;rcases List.mem_cons.mp h with e |h
  .injection e with e1 e2
   subst e1 e2;rw [keep r _ c.1,if_neg (by rw [d];decide)];simp
  .exact vD d c.2 h
section
variable{c:Cfg}
def Oc{f:Nat}(h:((rE f).take (iR f)).all (·.isSome)=true){i:Nat}{x:Str}{k:NameKind}(hi:i<iR f)(e:(rE f)[i]? =some (some (x,k))):(oE f)[i]? =some x:=by
 have d:∀(l:List (Option (Str×NameKind))) (j:Nat),l.all (·.isSome)=true->l[j]? =some (some (x,k))->(l.filterMap λo=>o.map (·.1))[j]? =some x:=by
  intro l
  induction l with
  |nil=>intro j _ h;simp at h
  |cons o l g=>
   intro j b a;simp only [List.all_cons,cM]at b
   cases o with
   |none=>simp at b
   |some q=>
    cases j with
    |zero=>simp at a;subst a;exact rfl
    |succ j=>simp at a;simpa using g j b.2 a
 exact d _ i h (by rw [List.getElem?_take];simp [hi,e])
def xS{f:Nat}{o:Obj}{b:FuncData}{body:List Stmt}{s t:Shared}{ρ:dM}{st:St}{A:List Value}{vs:List V}(F:Ob c f o b body)(ho:Own c ρ st s.heap)(hv:cH ρ s.heap vs A)(hl:vs.length=iR f)
  (x:InCallC s (callEnvC b s.heap.objs.size (pN f)).locals (bindL (callEnvC b s.heap.objs.size (pN f)).kindOf ((oE f).zip A) λzz=>none) (callEnvC b s.heap.objs.size (pN f)).cells (bindC (callEnvC b s.heap.objs.size (pN f)).kindOf ((oE f).zip A) λzz=>none) t):
  bk c (callEnvC b s.heap.objs.size (pN f)) ⟨rE f,b.scope.names⟩ ρ (rW f vs) t.heap/\∀a,XF (callEnvC b s.heap.objs.size (pN f)) a->s.heap.get? a=none:=by
 have hd:=F.head;unfold xR at hd;simp only [cM,decide_eq_true_eq]at hd;refine cR hd λa9 c3=> ?_;obtain ⟨⟨⟨m,b4⟩,M⟩,L⟩:=a9;have I:=lY b4;have H:((callEnvC b s.heap.objs.size (pN f)).cells.map (·.1)).Nodup:=gp _ _ _ I yU (λzz h=>absurd h (tK));have J:∀a,s.heap.objs.size<=a->s.heap.get? a=none:=λa ha=>Heap.get?_none_of_le ha;have b5:(callEnvC b s.heap.objs.size (pN f)).locals=s.heap.objs.size:=rfl;have Q:∀p ∈(callEnvC b s.heap.objs.size (pN f)).cells,s.heap.objs.size<p.2:=λp d=>x.above p.1 p.2 d;have C:∀a,XF (callEnvC b s.heap.objs.size (pN f)) a->s.heap.get? a=none:=by
  rintro a (rfl |⟨p,d,rfl⟩)
  .exact J _ (uD b5.symm)
  .exact J _ (xy (Q p d))
 have b0:∀a,s.heap.get? a=none->c.b0.get? a=none:=λa h=>by
  cases e:c.b0.get? a with
  |none=>rfl
  |some o=>rw [ho.keep _ _ e]at h;cases h
 have no:∀a,s.heap.get? a=none-> ¬d7 ρ a:=λa h q=>by
  refine aB (ho.alive q) λo g zz=> ?_;rw [h]at g;cases g
 have tk:bw s.heap t.heap:=λy ws n e=>x.toInCall.keep _ _ e;have kd:∀y,(callEnvC b s.heap.objs.size (pN f)).kindOf y=b.scope.names.lookup y:=λy=>rfl;have a0:A.length=iR f:=by rw [hv.length,hl]
 have Y:(((oE f).zip A).map (·.1)).Nodup:=by
  rw [List.map_fst_zip (zt (ze M) (zf a0))];unfold oE;have:qY (rE f)=true:=by unfold i9 at m;simp only [cM]at m;exact m.1
  clear I H m L M C x;generalize iR f=n;generalize rE f=l at this
  induction l generalizing n with
  |nil=>simp
  |cons o l ih=>
   cases n with
   |zero=>simp
   |succ n=>
    cases o with
    |none=>simp only [List.take_succ_cons,List.filterMap_cons];exact ih n this
    |some q=>
     simp only [qY,cM,Dq]at this;simp only [List.take_succ_cons,List.filterMap_cons,Option.map_some];rw [lG];refine⟨λhm=> ?_,ih n this.2⟩;refine aB (List.mem_filterMap.mp hm) λo' b3 e=> ?_;have:=this.1 _ (List.mem_of_mem_take b3)
     cases o' with
     |none=>simp at e
     |some q'=>simp at e this;exact this e
 have b6:∀(i:Nat) (v:V),(rW f vs)[i]? =some (some v)->i<iR f/\vs[i]? =some v:=λi v e=>by
  unfold rW at e;refine a_ (oO i vs.length) (λh=> ?_) λh=> ?_
  .rw [uw (by simpa using h)]at e;simp only [yj,Option.map_eq_some_iff]at e;refine aB e λu e1 e2=> ?_;cases e2;exact⟨hl▸h,e1⟩
  .rw [Af (by simpa using h)]at e;rw [List.getElem?_replicate]at e;split at e
   .cases e
   .cases e
 have U:∀(i:Nat) (y:Str) (k:NameKind) (v:V),(rE f)[i]? =some (some (y,k))->(rW f vs)[i]? =some (some v)->∃w,(y,w) ∈(oE f).zip A/\VR ρ s.heap v w:=λi y k v z D=>by
  refine cR (b6 i v D) λG E=> ?_;refine aB (hv.get E) λw h5 h6=> ?_;have h7:=Oc L G z;exact⟨w,nR (by rw [List.getElem?_zip_eq_some];exact⟨h7,h5⟩),h6⟩
 refine⟨{kind:=F.kind,glob:=F.glob,blt:=F.blt,nm:=rfl,names:=λi y k e=>i9.names m e,inj:=λi j y k k' e e'=>i9.inj m e e',low:=⟨b0 _ (C _ (.inl rfl)),λp d=>b0 _ (C _ (.inr ⟨p,d,rfl⟩))⟩,own:=⟨no _ (C _ (.inl rfl)),λp d=>no _ (C _ (.inr ⟨p,d,rfl⟩))⟩,sep:=⟨λp d=>Nat.ne_of_gt (Q p d),λp d q hq e=> ?_⟩,ns:=⟨_,x.toInCall.ns,?_⟩,cells:= ?_,alive:=λp d=>⟨_,x.cell p.1 p.2 (gq H d)⟩},C⟩
 .exact name_of_addr x.apart d (by rw [e];exact hq)
 .intro i y v z D;refine aB (U i y _ v z D) λw G E=> ?_;exact⟨w,vC (i9.names m z).1 Y G,E.mono (bS _) tk⟩
 .intro i y z;have hk:=(i9.names m z).1;refine ez (iQ b.scope.names (s.heap.objs.size+1) [] y (.inl (mem_of_lookup hk))) λa ha=> ?_;have N:=gq H ha;refine⟨a,_,N,x.cell y a N,λv D=> ?_⟩;refine aB (U i y _ v z D) λw G E=> ?_;exact⟨w,vD hk Y G,E.mono (bS _) tk⟩
structure LI (c:Cfg):Prop where
 T:fT c
 fn:∀f,f<60->∃o fd body,Ob c f o fd body
def A5(H:LI c):∀d,oq c d (aq d):=by
 intro d
 induction d with
 |zero=>intro f vs st K A ρ s G R h;exact h.elim
 |succ d Y=>
  rintro f vs st K A ρ s G R ⟨⟨hf,bW⟩,hb⟩ hA g Q L
  refine sM (H.fn f hf) λo l body F=> ?_;refine eG (F.bind s vs G ρ s.heap g.keep Q bW) λN ul hus m=> ?_;have p:=F.head;unfold xR at p;simp only [cM,decide_eq_true_eq]at p;refine cR p λzp0 b2=> ?_;obtain ⟨⟨⟨hc,I⟩,b0⟩,a9⟩:=zp0;have n:∀x ∈(oE f).zip N,l.scope.names.lookup x.1=some .local\/(l.scope.names.lookup x.1=some .cell/\((cellsFrom (s.heap.objs.size+1) l.scope.names []).lookup x.1).isSome=true):=by
   intro x M;have J:=(List.of_mem_zip M).1;unfold oE at J;refine aB (List.mem_filterMap.mp J) λq hq e=> ?_
   cases q with
   |none=>simp at e
   |some q=>
    obtain ⟨y,k⟩:=q;simp at e;subst e;obtain ⟨i,hi,e⟩:=Dg (List.mem_of_mem_take hq);have:=i9.names hc (i:=i) (x:=x.1) (k:=k) (by show(rE f)[i]? =_;rw [gO hi,e]);rcases this with⟨j,rfl |rfl⟩
    .exact .inl j
    .refine .inr ⟨j,?_⟩;refine ez (iQ l.scope.names (s.heap.objs.size+1) [] _ (.inl (mem_of_lookup j))) λa U=> ?_;have C:((cellsFrom (s.heap.objs.size+1) l.scope.names []).map (·.1)).Nodup:=gp _ _ _ (lY I) yU (λzz h=>absurd h (tK));rw [gq C U];rfl
  refine zG hA.room (g.keep _ _ F.at_) F.data (H.T.lim.keeps g.keep) (F.code.keeps g.keep) F.HJ m F.Ri n (λa0 x E=> ?_) F.co F.gen F.kind;refine cR (xS F g hus bW x) λff xf=> ?_;refine cO x.toInCall.same λj u t=> ?_;subst t;refine cR (g.kept (h':=j) x.toInCall.keep) λo1 p1=> ?_;refine sB H.T Y (Cu f) body _ _ F.TG _ st _ hb _ ρ {s with heap:=j,toks:=u} _ E (hA.deeper _) o1 ff ?_;intro fl m' b1 D h' tk xW k pp oo f2 r;have post:Post ρ D s.heap h':=(p1.uu.trans pp).mono λb z=> .inr (xf b z);revert k;refine ND.el (fl:=fl) (xW:=xW) r (λk=> ?_) (λk=>False.elim k) (λk=>False.elim k) (λv w r k=> ?_)
  .exact L _ _ _ _ _ _ k post oo .none
  .exact L _ _ _ _ _ _ k post oo r
end
end
section
open PyProof.Rows
namespace H
noncomputable abbrev pw:Program:=PySem.Challenge.pw_up0037_01
def cl(i:Nat):Stmt:=(pw.main.body[i]?).getD (.Pass ⟨0,0,0,0⟩)
def cm(i j:Nat):Stmt:=match cl i with
 | .ClassDef _ _ _ b _ _ _ _ _ _ _=>(b[j]?).getD (.Pass ⟨0,0,0,0⟩)
 |s=>s
noncomputable def sts(a n:Nat):List Stmt:=(pw.main.body.drop a).take n
noncomputable abbrev env:Env:={scope:=pw.main.scope,locals:=mainNs,globals:=mainNs,cells:=[],code:= .ref 13,frame:=some 14}
abbrev cd:Code:= .body (behindTheImports pw) env
noncomputable abbrev B:List Frame:=[topFrame ⟨0,0,0,0⟩]
abbrev K0:=PySem.W.Fast.tw10110043849684766642
abbrev OF:=PySem.W.Fast.tw14364793385576792824
noncomputable abbrev r(n:Nat):Value:= .ref n
noncomputable abbrev s(x:String)(t:Nat):Value:= .str (Str.ofString x) t
noncomputable abbrev i(n:Int)(t:Nat):Value:= .int n t
noncomputable abbrev bo(x:Bool):Value:= .bool x
noncomputable abbrev bu(x:String):Value:= .builtin x
noncomputable abbrev ty(x:String):Value:= .type x
noncomputable abbrev nV:Value:= .none
noncomputable abbrev en(P:Params)(x:String)(t:Nat)(v:Value):DictEntry:=⟨PyData.keyHash P (Str.ofString x),.str (Str.ofString x) t,v⟩
noncomputable abbrev oT(l:List Value):Obj:=⟨.type "tuple",none,.seq ⟨l⟩ 0,#[]⟩
noncomputable abbrev oN(l:List Value):Obj:=⟨.none,none,.fields ⟨l⟩,#[]⟩
noncomputable abbrev oR(c:String)(l:List Value):Obj:=⟨.type c,none,.fields ⟨l⟩,#[]⟩
noncomputable abbrev oD(es:List DictEntry)(n:Nat):Obj:=⟨.type "dict",none,.dict ⟨es⟩ n,#[]⟩
abbrev oC(n q:String)(t:Nat)(ln a f:Int)(h:Value)(j:Bool)(c d g e:Value)(b:Nat):Obj:=
 oR "code" [s n t,s q (t+1),s "/claim/cut.py" (t+2),i ln 0,i a 0,i 0 0,i 0 0,i f 0,h,bo j,i 181 0,c,nV,d,g,e,i b 0,i ln 0,s "/claim/cut.py" (b+1)]
noncomputable def defName:Stmt->Str | .FunctionDef n _ _ _ _ _ _ _ _ _=>n |_=>⟨#[]⟩
noncomputable def A_:Stmt->Arguments | .FunctionDef _ a _ _ _ _ _ _ _ _=>a |_=>⟨[],[],none,[],[],none,[]⟩
noncomputable def Bc:Stmt->List Stmt | .FunctionDef _ _ b _ _ _ _ _ _ _=>b |_=>[]
noncomputable def xY:Stmt->Scope | .FunctionDef _ _ _ _ _ _ s _ _ _=>s |_=>⟨.function,[],false,false,[]⟩
abbrev fdOf(st:Stmt)(q:String)(g:Addr)(dflt pm code:Value):FuncData:=
 {name:=defName st,qualname:=Str.ofString q,params:=A_ st,body:= .stmts (Bc st),scope:=xY st,globals:=g,closure:=[],defaults:=dflt,kwdefaults:= .none,doc:= .none,pyModule:=pm,annotations:=none,code:=code,closureTuple:= .none,builtins:=0}
abbrev oK(st:Stmt)(q:String):Obj:=⟨.none,none,.func (fdOf st q 0 .none .none .none),#[]⟩
abbrev oF(st:Stmt)(q:String)(dflt pm code:Value):Obj:=⟨.type "function",none,.func (fdOf st q 3 dflt pm code),#[]⟩
noncomputable def H7(n:Nat)(o2 d c jz:Obj):BT->Nat->Nat->BT
 | .nil,_,_=> .nil
 | .node o l r,a,b=>match Nat.ble n b with
  |true=> .nil
  |false=> .node (match Nat.beq b 2 with |true=>o2 |false=>match Nat.beq b 3 with |true=>d |false=>match Nat.beq b 12 with |true=>c |false=>match Nat.beq b 189 with |true=>jz |false=>o)
   (H7 n o2 d c jz l (2*a) (a+b)) (H7 n o2 d c jz r (2*a) (2*a+b))
def m0:Value:=s "__main__" 164
def m1:Value:=s "__main__" 164
def m2:Value:=s "kindkeep.nodes" 194
def m3:Value:=s "kindkeep.binder" 644
def m4:Value:=s "kindkeep.calls" 723
def m5:Value:=s "kindkeep.cguard" 758
def m6:Value:=s "kindkeep.diags" 786
def m7:Value:=s "kindkeep.types" 1021
def m8:Value:=s "kindkeep.ccore" 1176
def m9:Value:=s "kindkeep.cfuncs" 1887
def K4:Value:=s "kindkeep.cfields" 1904
def TM:Value:=s "kindkeep.narrowfar" 1964
def rH:Value:=s "law_up0037_01" 1973
def toks:List String->Nat->List Value
 | [],_=>[]
 |x::l,t=>s x t::toks l (t+1)
def es(P:Params)(l:List (String×Nat×Nat)):List DictEntry:=l.map λx=>en P x.1 x.2.1 (r x.2.2)
def ei(P:Params)(l:List (String×Nat×Int)):List DictEntry:=l.map λx=>en P x.1 x.2.1 (i x.2.2 (x.2.1-1))
def nw(l:List (Int×Nat×String)):List DictEntry:=l.map λx=>⟨x.1,i x.1 x.2.1,s x.2.2 (x.2.1+1)⟩
def uv(k:Int):List (Int×Nat)->List Value
 | []=>[]
 |(x,y)::l=>i x 0::i k 0::r y::uv k l
def fB(b:Nat)(st:Stmt)(n q:String)(t:Nat)(ln a:Int)(vs:List String)(d m:Value):List Obj:=
 [oT [],oN [],oT (toks vs (t+3)),oT [],oK st q,oC n q t ln a 3 (r b) true (r (b+1)) (r (b+2)) (r (b+3)) (r (b+4)) (t+3+vs.length),oF st q d m (r (b+5))]
def fS(b:Nat)(st:Stmt)(q:String)(t:Nat)(ln a:Int)(m:Value):List Obj:=
 [oT [],oN [],oK st q,oC q q t ln a 3 (r b) true (r (b+1)) nV nV (r (b+2)) (t+3),oF st q nV m (r (b+3))]
structure Kl where
 c:Nat
 n:String
 t:Nat
 ln:Int
 m:Value
 ms:List DictEntry
 u:Nat
def fr(c n:Nat)(m:Value):Obj:=⟨ty "frame",none,.plain,#[some (r c),some (r 3),some (r n),none,some m,none,some (r 0)]⟩
def kP(P:Params)(k:Kl)(b:Nat)(bs a:List Value):List Obj:=
 [oT bs,oR "builtin_function_or_method" [bu "type.__prepare__",ty "type"],
  oD (en P "__module__" (k.t+5) k.m::en P "__qualname__" (k.t+7) (s k.n (k.t+6))::en P "__firstlineno__" (k.t+9) (i k.ln (k.t+8))::(k.ms++ [en P "__static_attributes__" k.u (r (k.c-2))])) (k.ms.length+4),
  oT [],oN a,oC k.n k.n k.t k.ln 0 0 (r (b+3)) false (r (b+4)) nV nV nV (k.t+3),fr (b+5) (b+2) k.m]
def kQ(P:Params)(k:Kl)(at_:List String):List Obj:=
 [oT (toks at_ (k.u-at_.length)),
  oD (en P "__module__" (k.t+5) k.m::en P "__firstlineno__" (k.t+9) (i k.ln (k.t+8))::(k.ms++ [en P "__static_attributes__" k.u (r (k.c-2)),en P "__dict__" (k.u+2) (r (k.c+1)),en P "__weakref__" (k.u+4) (r (k.c+2)),en P "__doc__" (k.u+5) nV])) 4,
  ⟨ty "type",none,.cls ⟨Str.ofString k.n,[ty "object"],[r k.c,ty "object"],k.c-1,Str.ofString k.n,true,[],[],false,none,false⟩,#[none,none,some (s k.n (k.t-2)),some (s k.n (k.t+6)),some (bu "object.__new__"),some (bo true)]⟩,
  oR "getset_descriptor" [s "__dict__" (k.u+1),r k.c,bu "function.__dict__",bu "function.__dict__#set"],
  oR "getset_descriptor" [s "__weakref__" (k.u+3),r k.c,bu "ExceptionGroup.__weakref__",nV],
  oR "super" [r k.c,r k.c,r k.c],oR "builtin_function_or_method" [bu "object.__init_subclass__",r k.c]]
def ev(l:List Obj):Bool->List Obj:=List.rec (λc=>[]) (λx c a b=>match b with |true=>x::a false |false=>a true) l
def bt:Nat->List Obj->BT
 |0,_=> .nil
 |n+1,l=>List.rec .nil (λx xs a=> .node x (bt n (ev xs true)) (bt n (ev xs false))) l
def k0(P:Params):Kl:=⟨44,"Node",560,53,m2,es P [("__init__",581,41)],588⟩
def k1(P:Params):Kl:=⟨100,"Symbol",650,91,m3,es P [("__init__",672,97)],681⟩
def k2(P:Params):Kl:=⟨121,"Bound",691,102,m3,es P [("__init__",708,118)],715⟩
def k3(P:Params):Kl:=⟨189,"KeepError",792,165,m6,es P [("__init__",810,186)],813⟩
def k4(P:Params):Kl:=⟨210,"TooDeep",823,170,m6,es P [("__init__",843,207)],846⟩
def k5(P:Params):Kl:=⟨230,"HostFault",852,175,m6,es P [("__init__",870,227)],873⟩
def k6(P:Params):Kl:=⟨256,"Diag",879,180,m6,es P [("__init__",899,246),("row",906,253)],911⟩
def k7(P:Params):Kl:=⟨292,"Diags",921,190,m6,es P [("__init__",939,275),("put",949,282),("numbers",956,289)],959⟩
def k8(P:Params):Kl:=⟨334,"Notes",969,201,m6,es P [("__init__",985,310),("put",994,317),("codes",1004,324),("clean",1011,331)],1013⟩
def k9(P:Params):Kl:=⟨392,"TypeTable",1065,228,m7,es P [("__init__",1082,375),("row",1090,382),("put",1099,389)],1110⟩
def LN(P:Params):Kl:=⟨413,"Decl",1120,254,m7,es P [("__init__",1139,410)],1155⟩
def QY(P:Params):Kl:=⟨457,"Guard",1182,276,m8,es P [("access",1202,440),("readonly",1212,447),("reckons",1223,454)],1224⟩
def zS(P:Params):Kl:=⟨485,"Roads",1234,286,m8,es P [("__init__",1250,475),("unset",1261,482)],1263⟩
def LO(P:Params):Kl:=⟨569,"Judge",1273,293,m8,es P [("__init__",1289,503),("fits",1299,510),("lies",1309,517),("excess",1319,524),("meets",1329,531),("same",1339,538),("reduced",1349,545),("met",1358,552),("words",1367,559),("explain",1380,566)],1382⟩
def HY(P:Params):Kl:=⟨604,"Patterns",1392,324,m8,es P [("spread",1412,587),("element",1422,594),("names",1432,601)],1433⟩
def SJ(P:Params):Kl:=⟨625,"Giver",1443,337,m8,es P [("given",1462,622)],1463⟩
def SM(P:Params):Kl:=⟨653,"Places",1473,341,m8,es P [("self_kind",1491,643),("base_kind",1500,650)],1501⟩
def SN(P:Params):Kl:=⟨674,"FuncRule",1511,348,m8,es P [("check",1530,671)],1531⟩
def SO(P:Params):Kl:=⟨856,"Sheet",1541,353,m8,es P [("__init__",1564,692),("expr",1573,699),("stmt",1581,706),("typed",1589,713),("read",1599,720),("wants",1610,727),("fits",1622,734),("func",1631,741),("declared_of",1639,748),("fault",1649,755),("tell",1660,762),("words",1668,769),("note",1677,776),("keep",1686,783),("declare",1695,790),("mark",1703,797),("back",1711,804),("tried",1720,811),("given",1729,818),("self_kind",1737,825),("base_kind",1745,832),("solid",1754,839),("short",1763,846),("road",1772,853)],1831⟩
def o2(P:Params):Obj:=⟨nV,none,(.dict #[(en P "type.__subclasses__.Exception.0" 817 (i 189 0)),(en P "type.__subclasses__.Exception.n" 818 (i 1 0))] 2),#[]⟩
noncomputable def kn:List (Int×Nat×String):=[(1,290,"number"),(2,293,"text"),(3,296,"template"),(4,299,"true"),(5,302,"false"),(6,305,"null"),(7,308,"undefined"),(8,311,"name"),(9,314,"this"),(10,317,"super"),(11,320,"array literal"),(12,323,"object literal"),(13,326,"property"),(14,329,"short property"),(15,332,"spread"),(16,335,"member"),(17,338,"index"),(18,341,"call"),(19,344,"new"),(20,347,"optional chain"),(21,350,"unary operator"),(22,353,"update"),(23,356,"binary operator"),(24,359,"logical operator"),(25,362,"assignment"),(26,365,"choice"),(27,368,"function"),(28,371,"parameter"),(29,374,"as"),(30,377,"as const"),(31,380,"satisfies"),(32,383,"non-null mark"),(33,386,"parentheses"),(34,389,"object pattern"),(35,392,"array pattern"),(36,395,"binding"),(40,398,"file"),(41,401,"variable statement"),(42,404,"declarator"),(43,407,"expression statement"),(44,410,"if"),(45,413,"while"),(46,416,"do"),(47,419,"for"),(48,422,"for of"),(49,425,"for in"),(50,428,"switch"),(51,431,"case"),(52,434,"return"),(53,437,"break"),(54,440,"continue"),(55,443,"label"),(56,446,"throw"),(57,449,"try"),(58,452,"catch"),(59,455,"block"),(60,458,"empty statement"),(61,461,"class"),(62,464,"field"),(63,467,"index signature"),(64,470,"interface"),(65,473,"type alias"),(66,476,"enum"),(67,479,"enum member"),(68,482,"imp\x6frt"),(69,485,"imported name"),(70,488,"export"),(71,491,"row of nodes"),(80,494,"keyword type"),(81,497,"type name"),(82,500,"literal type"),(83,503,"union type"),(84,506,"intersection type"),(85,509,"array type"),(86,512,"tuple type"),(87,515,"tuple element"),(88,518,"object type"),(89,521,"keyof"),(90,524,"indexed type"),(91,527,"mapped type"),(92,530,"conditional type"),(93,533,"infer"),(94,536,"template type"),(95,539,"typeof type"),(96,542,"predicate"),(97,545,"readonly type"),(98,547,"type parentheses"),(99,549,"property signature"),(100,551,"type parameter")]
def ob(P:Params):List (List Obj):=[
 [oC "<module>" "<module>" 182 1 0 0 (r 11) false (r 12) nV nV nV 185,⟨(ty "frame"),none,.plain,#[some (r 13),some (r 3),some (r 3),none,some (s "__main__" 164),none,some (r 0)]⟩],
 fB 15 (cl 0) "_wall" "_wall" 187 1 1 ["k"] nV m1,
 [oD (nw kn) 89,oD (nw ((kn.drop 17).take 17)) 17,oD (nw ((kn.drop 34).take 17)) 17,oD (nw ((kn.drop 51).take 17)) 17,oD (nw ((kn.drop 68).take 17)) 17,oD (nw ((kn.drop 85).take 4)) 4],
 kP P (k0 P) 28 [] (uv 4 [(55,40)]),
 fB 35 (cm 50 0) "__init__" "Node.__init__" 570 55 6 ["self","kind","a","kids","flags","at"] nV m2,
 kQ P (k0 P) ["a","at","flags","kids","kind","nid"],
 fB 49 (cl 51) "flagged" "flagged" 596 62 5 ["kind","a","kids","flags","at"] nV m2,
 fB 56 (cl 52) "has" "has" 607 64 2 ["node","flag"] nV m2,
 fB 63 (cl 53) "bare" "bare" 615 66 1 ["node"] nV m2,
 fB 70 (cl 54) "walk_nodes" "walk_nodes" 622 70 1 ["root","out","stack","node","at","kid"] nV m2,
 fB 77 (cl 55) "number_nodes" "number_nodes" 634 83 2 ["root","start","number","node"] nV m2,
 kP P (k1 P) 84 [] (uv 4 [(93,96)]),
 fB 91 (cm 58 0) "__init__" "Symbol.__init__" 660 93 7 ["self","sid","name","what","node","scope","home"] nV m3,
 kQ P (k1 P) ["home","name","nodes","scope","sid","tag","what","written"],
 kP P (k2 P) 105 [] (uv 4 [(104,117)]),
 fB 112 (cm 59 0) "__init__" "Bound.__init__" 701 104 2 ["self","diags"] nV m3,
 kQ P (k2 P) ["decl","diags","of_node","scopes","symbols","use"],
 fB 126 (cl 61) "calls_class_node" "calls_class_node" 725 112 2 ["cx","did","symbol","node"] nV m4,
 fS 133 (cl 62) "own_ctors" 735 119 1 m4,
 fS 138 (cl 63) "stands_within" 741 121 2 m4,
 fB 143 (cl 64) "in_constructor" "in_constructor" 747 132 3 ["cx","did","nid","node","ctor"] nV m4,
 fS 150 (cl 66) "is_param_prop" 760 141 1 m5,
 fB 155 (cl 67) "ctor_with_body" "ctor_with_body" 766 144 1 ["node","ctor"] nV m5,
 fS 162 (cl 68) "param_props" 774 149 1 m5,
 fS 167 (cl 69) "stands_direct" 780 154 2 m5,
 kP P (k3 P) 172 [(ty "Exception")] (uv 4 [(167,185)]),
 [oT [(s "" 802)]],
 fB 180 (cm 72 0) "__init__" "KeepError.__init__" 803 167 2 ["self","text"] (r 179) m6,
 [oT [(s "number" 811),(s "text" 812)],oD [(en P "__module__" 797 (s "kindkeep.diags" 786)),(en P "__firstlineno__" 801 (i 165 800)),(en P "__init__" 810 (r 186)),(en P "__static_attributes__" 813 (r 187)),(en P "__weakref__" 815 (r 190)),(en P "__doc__" 816 nV)] 3,⟨(ty "type"),none,(.cls ⟨"KeepError",[(ty "Exception")],[(r 189),(ty "Exception"),(ty "BaseException"),(ty "object")],188,"KeepError",true,[],[(r 210),(r 230)],false,none,false⟩),#[some (r 172),none,some (s "KeepError" 790),some (s "KeepError" 798),some (bu "Exception.__new__"),some (bo true)]⟩,oR "getset_descriptor" [(s "__weakref__" 814),(r 189),(bu "ExceptionGroup.__weakref__"),nV],oR "super" [(r 189),(r 189),(r 189)],oR "builtin_function_or_method" [(bu "object.__init_subclass__"),(r 189)]],
 kP P (k4 P) 193 [(r 189)] (uv 4 [(172,206)]),
 [oT [(i 2589 833),(s "" 834)]],
 fB 201 (cm 73 0) "__init__" "TooDeep.__init__" 835 172 3 ["self","number","text"] (r 200) m6,
 [oT [(s "number" 844),(s "text" 845)],oD [(en P "__module__" 828 (s "kindkeep.diags" 786)),(en P "__firstlineno__" 832 (i 170 831)),(en P "__init__" 843 (r 207)),(en P "__static_attributes__" 846 (r 208)),(en P "__doc__" 847 nV)] 2,⟨(ty "type"),none,(.cls ⟨"TooDeep",[(r 189)],[(r 210),(r 189),(ty "Exception"),(ty "BaseException"),(ty "object")],209,"TooDeep",true,[],[],false,none,false⟩),#[some (r 193),none,some (s "TooDeep" 821),some (s "TooDeep" 829),some (bu "Exception.__new__"),some (bo true)]⟩,oR "super" [(r 210),(r 210),(r 210)],oR "builtin_function_or_method" [(bu "object.__init_subclass__"),(r 210)]],
 kP P (k5 P) 213 [(r 189)] (uv 4 [(177,226)]),
 [oT [(s "" 862)]],
 fB 221 (cm 74 0) "__init__" "HostFault.__init__" 863 177 2 ["self","text"] (r 220) m6,
 [oT [(s "number" 871),(s "text" 872)],oD [(en P "__module__" 857 (s "kindkeep.diags" 786)),(en P "__firstlineno__" 861 (i 175 860)),(en P "__init__" 870 (r 227)),(en P "__static_attributes__" 873 (r 228)),(en P "__doc__" 874 nV)] 2,⟨(ty "type"),none,(.cls ⟨"HostFault",[(r 189)],[(r 230),(r 189),(ty "Exception"),(ty "BaseException"),(ty "object")],229,"HostFault",true,[],[],false,none,false⟩),#[some (r 213),none,some (s "HostFault" 850),some (s "HostFault" 858),some (bu "Exception.__new__"),some (bo true)]⟩,oR "super" [(r 230),(r 230),(r 230)],oR "builtin_function_or_method" [(bu "object.__init_subclass__"),(r 230)]],
 kP P (k6 P) 233 [] (uv 4 [(182,245),(188,252)]),
 fB 240 (cm 75 0) "__init__" "Diag.__init__" 889 182 5 ["self","number","at","args","file"] nV m6,
 fB 247 (cm 75 1) "row" "Diag.row" 900 188 1 ["self"] nV m6,
 kQ P (k6 P) ["args","at","file","number"],
 kP P (k7 P) 261 [] (uv 4 [(192,274),(196,281),(199,288)]),
 [oT [(s "" 931)]],
 fB 269 (cm 76 0) "__init__" "Diags.__init__" 932 192 2 ["self","file"] (r 268) m6,
 fB 276 (cm 76 1) "put" "Diags.put" 940 196 4 ["self","number","at","args"] nV m6,
 fB 283 (cm 76 2) "numbers" "Diags.numbers" 950 199 1 ["self"] nV m6,
 kQ P (k7 P) ["file","rows"],
 kP P (k8 P) 297 [] (uv 4 [(203,309),(206,316),(209,323),(215,330)]),
 fB 304 (cm 77 0) "__init__" "Notes.__init__" 979 203 1 ["self"] nV m6,
 fB 311 (cm 77 1) "put" "Notes.put" 986 206 3 ["self","code","at"] nV m6,
 fB 318 (cm 77 2) "codes" "Notes.codes" 995 209 1 ["self","found","code","at"] nV m6,
 fB 325 (cm 77 3) "clean" "Notes.clean" 1005 215 1 ["self"] nV m6,
 kQ P (k8 P) ["rows"],
 [oT [(i 1 1023),(s "any" 1041)],oT [(i 1 1023),(s "unknown" 1042)],oT [(i 1 1023),(s "never" 1043)],oT [(i 1 1023),(s "void" 1044)],oT [(i 1 1023),(s "undefined" 1045)],oT [(i 1 1023),(s "null" 1046)],oT [(i 1 1023),(s "string" 1047)],oT [(i 1 1023),(s "number" 1048)],oT [(i 2 1025),(i 0 1049),(i 0 1050)],oT [(i 2 1025),(i 1 1051),(i 0 1052)],oT [(i 1 1023),(s "object" 1053)],oT [],oT [],oT [],oT [],oT [],oT [(i 8 1029),(r 350),(r 351),(r 352),(r 353),(r 354),(i 0 1054)],oT [(i 8 1055),(i 9 1056)],oT [(i 6 1027),(r 356)],oT [(i 1 1023),(s "error" 1057)],oT [(i 2 1025),(i 0 1058),(i 1 1059)],oT [(i 2 1025),(i 1 1060),(i 1 1061)],oT [(r 339),(r 340),(r 341),(r 342),(r 343),(r 344),(r 345),(r 346),(r 347),(r 348),(r 349),(r 355),(r 357),(r 358),(r 359),(r 360)]],
 kP P (k9 P) 362 [] (uv 4 [(230,374),(244,381),(247,388)]),
 fB 369 (cm 89 0) "__init__" "TypeTable.__init__" 1075 230 1 ["self","row"] nV m7,
 fB 376 (cm 89 1) "row" "TypeTable.row" 1083 244 2 ["self","t"] nV m7,
 fB 383 (cm 89 2) "put" "TypeTable.put" 1091 247 2 ["self","row","t"] nV m7,
 kQ P (k9 P) ["bounds","decls","defaults","index","names","origins","putting","renamed","rows","shaping"],
 kP P (LN P) 397 [] (uv 4 [(256,409)]),
 fB 404 (cm 90 0) "__init__" "Decl.__init__" 1130 256 4 ["self","did","kind","name"] nV m7,
 kQ P (LN P) ["abstract","at","bases","body","busy","did","extends_class","file","kind","members","name","nid","params","static","variances"],
 [oT [],oT [(r 418),(i 0 1163)]],
 fB 420 (cl 91) "sig_type" "sig_type" 1164 272 6 ["tab","tparams","params","ret","pred","flags"] (r 419) m7,
 kP P (QY P) 427 [] (uv 4 [(278,439),(281,446),(284,453)]),
 fB 434 (cm 94 0) "access" "Guard.access" 1192 278 5 ["self","cx","node","row","obj"] nV m8,
 fB 441 (cm 94 1) "readonly" "Guard.readonly" 1203 281 4 ["self","cx","target","row"] nV m8,
 fB 448 (cm 94 2) "reckons" "Guard.reckons" 1213 284 5 ["self","cx","node","row","obj"] nV m8,
 kQ P (QY P) [],
 kP P (zS P) 462 [] (uv 4 [(288,474),(291,481)]),
 fB 469 (cm 95 0) "__init__" "Roads.__init__" 1244 288 1 ["self"] nV m8,
 fB 476 (cm 95 1) "unset" "Roads.unset" 1251 291 5 ["self","cx","flow","name","declared"] nV m8,
 kQ P (zS P) ["given"],
 kP P (LO P) 490 [] (uv 4 [(295,502),(298,509),(301,516),(304,523),(307,530),(310,537),(313,544),(316,551),(319,558),(322,565)]),
 fB 497 (cm 96 0) "__init__" "Judge.__init__" 1283 295 1 ["self"] nV m8,
 fB 504 (cm 96 1) "fits" "Judge.fits" 1290 298 4 ["self","cx","s","t"] nV m8,
 fB 511 (cm 96 2) "lies" "Judge.lies" 1300 301 4 ["self","cx","s","t"] nV m8,
 fB 518 (cm 96 3) "excess" "Judge.excess" 1310 304 4 ["self","cx","s","t"] nV m8,
 fB 525 (cm 96 4) "meets" "Judge.meets" 1320 307 4 ["self","cx","s","t"] nV m8,
 fB 532 (cm 96 5) "same" "Judge.same" 1330 310 4 ["self","cx","s","t"] nV m8,
 fB 539 (cm 96 6) "reduced" "Judge.reduced" 1340 313 4 ["self","cx","node","parts"] nV m8,
 fB 546 (cm 96 7) "met" "Judge.met" 1350 316 3 ["self","cx","parts"] nV m8,
 fB 553 (cm 96 8) "words" "Judge.words" 1359 319 3 ["self","cx","t"] nV m8,
 fB 560 (cm 96 9) "explain" "Judge.explain" 1368 322 7 ["self","cx","node","s","t","at","number"] nV m8,
 kQ P (LO P) ["given"],
 kP P (HY P) 574 [] (uv 4 [(326,586),(332,593),(335,600)]),
 fB 581 (cm 97 0) "spread" "Patterns.spread" 1402 326 5 ["self","cx","pattern","t","sink"] nV m8,
 fB 588 (cm 97 1) "element" "Patterns.element" 1413 332 4 ["self","cx","node","t"] nV m8,
 fB 595 (cm 97 2) "names" "Patterns.names" 1423 335 4 ["self","cx","node","t"] nV m8,
 kQ P (HY P) [],
 kP P (SJ P) 609 [] (uv 4 [(339,621)]),
 fB 616 (cm 98 0) "given" "Giver.given" 1453 339 4 ["self","cx","node","key"] nV m8,
 kQ P (SJ P) [],
 kP P (SM P) 630 [] (uv 4 [(343,642),(346,649)]),
 fB 637 (cm 99 0) "self_kind" "Places.self_kind" 1483 343 3 ["self","cx","node"] nV m8,
 fB 644 (cm 99 1) "base_kind" "Places.base_kind" 1492 346 3 ["self","cx","node"] nV m8,
 kQ P (SM P) [],
 kP P (SN P) 658 [] (uv 4 [(350,670)]),
 fB 665 (cm 100 0) "check" "FuncRule.check" 1521 350 4 ["self","cx","node","want"] nV m8,
 kQ P (SN P) [],
 kP P (SO P) 679 [] (uv 4 [(355,691),(415,698),(418,705),(421,712),(424,719),(427,726),(430,733),(433,740),(436,747),(439,754),(442,761),(448,768),(451,775),(454,782),(457,789),(460,796),(464,803),(467,810),(470,817),(473,824),(476,831),(479,838),(482,845),(485,852)]),
 fB 686 (cm 101 0) "__init__" "Sheet.__init__" 1551 355 8 ["self","tab","host","bound","graph","namer","diags","notes"] nV m8,
 fB 693 (cm 101 1) "expr" "Sheet.expr" 1565 415 3 ["self","node","want"] nV m8,
 fB 700 (cm 101 2) "stmt" "Sheet.stmt" 1574 418 2 ["self","node"] nV m8,
 fB 707 (cm 101 3) "typed" "Sheet.typed" 1582 421 2 ["self","node"] nV m8,
 fB 714 (cm 101 4) "read" "Sheet.read" 1590 424 4 ["self","node","key","declared"] nV m8,
 fB 721 (cm 101 5) "wants" "Sheet.wants" 1600 427 5 ["self","s","t","at","number"] nV m8,
 fB 728 (cm 101 6) "fits" "Sheet.fits" 1611 430 6 ["self","node","s","t","at","number"] nV m8,
 fB 735 (cm 101 7) "func" "Sheet.func" 1623 433 3 ["self","node","want"] nV m8,
 fB 742 (cm 101 8) "declared_of" "Sheet.declared_of" 1632 436 2 ["self","sid"] nV m8,
 fB 749 (cm 101 9) "fault" "Sheet.fault" 1640 439 4 ["self","number","node","args"] nV m8,
 fB 756 (cm 101 10) "tell" "Sheet.tell" 1650 442 4 ["self","number","at","args","diag"] nV m8,
 fB 763 (cm 101 11) "words" "Sheet.words" 1661 448 2 ["self","t"] nV m8,
 fB 770 (cm 101 12) "note" "Sheet.note" 1669 451 3 ["self","code","node"] nV m8,
 fB 777 (cm 101 13) "keep" "Sheet.keep" 1678 454 3 ["self","node","t"] nV m8,
 fB 784 (cm 101 14) "declare" "Sheet.declare" 1687 457 3 ["self","sid","t"] nV m8,
 fB 791 (cm 101 15) "mark" "Sheet.mark" 1696 460 1 ["self","told"] nV m8,
 fB 798 (cm 101 16) "back" "Sheet.back" 1704 464 2 ["self","mark"] nV m8,
 fB 805 (cm 101 17) "tried" "Sheet.tried" 1712 467 3 ["self","node","want"] nV m8,
 fB 812 (cm 101 18) "given" "Sheet.given" 1721 470 3 ["self","node","key"] nV m8,
 fB 819 (cm 101 19) "self_kind" "Sheet.self_kind" 1730 473 2 ["self","node"] nV m8,
 fB 826 (cm 101 20) "base_kind" "Sheet.base_kind" 1738 476 2 ["self","node"] nV m8,
 fB 833 (cm 101 21) "solid" "Sheet.solid" 1746 479 3 ["self","node","t"] nV m8,
 fB 840 (cm 101 22) "short" "Sheet.short" 1755 482 3 ["self","node","t"] nV m8,
 fB 847 (cm 101 23) "road" "Sheet.road" 1764 485 3 ["self","node","t"] nV m8,
 kQ P (SO P) ["asker","banged","bound","bound_decls","busy","called","callees","chains","const_enums","consts","declared","deep","diags","drawn","dropped","exprs","func_at","funcs","giver","globals","got_by","graph","guard","guesses","heads","host","inits","inside","judge","late","later","lent","loops","marks","namer","notes","owners","paired","patterns","places","preset","ready","rets","roads","roots","rounds","selves_of","sigs","sorts","stmts","stops","tab","targets","this_of","told_names","trail","types","under"],
 fB 861 (cl 102) "check_stmt" "check_stmt" 1839 487 2 ["cx","node","start","deep"] nV m8,
 fS 868 (cl 103) "stays_told" 1849 503 2 m8,
 fS 873 (cl 104) "take_back" 1855 507 2 m8,
 fB 878 (cl 105) "given_kind" "given_kind" 1861 526 3 ["cx","node","key","mark","chains"] nV m8,
 fB 885 (cl 106) "want_fit" "want_fit" 1872 539 6 ["cx","node","s","t","at","number","fits","codes","code"] nV m8,
 fB 892 (cl 108) "returns_in" "returns_in" 1889 550 1 ["body","out","waiting","node","kid"] nV m9,
 fB 899 (cl 112) "is_super_call" "is_super_call" 1906 565 1 ["node"] nV K4,
 fS 906 (cl 113) "param_inits" 1913 567 1 K4,
 fB 911 (cl 114) "super_calls" "super_calls" 1919 581 1 ["root","out","waiting","node","kid"] nV K4,
 fB 918 (cl 115) "early_road" "early_road" 1930 593 2 ["graph","flow","seen","waiting","number"] nV K4,
 fB 925 (cl 116) "stands_top" "stands_top" 1941 607 2 ["body","call","node"] nV K4,
 fB 932 (cl 117) "has_inits" "has_inits" 1950 612 1 ["node","kid"] nV K4,
 fS 939 (cl 118) "check_super" 1958 617 3 K4,
 [oT [(i 18 214),(i 19 216),(i 16 210),(i 17 212),(i 34 232),(i 35 234),(i 15 208)]],
 fS 945 (cl 121) "deeds_of" 1967 635 1 TM,
 [oT [(i 0 1975),(i 1 1976),(i 0 1977),(i 0 1978),(i 6 1979),(i 2 1980),(i 0 1981),(i 0 1982),(i 6 1983),(i 1 1984),(i 4 1985),(i 1 1986),(i 2 1987),(i 1 1988),(i 0 1989),(i 0 1990),(i 1 1991),(i 0 1992),(i 0 1993),(i 3 1994),(i 1 1995),(i 3 1996),(i 0 1997),(i 1 1998),(i 0 1999),(i 0 2000),(i 0 2001),(i 0 2002)],oT [(bo true),(bo true),(bo true)],oT [(bo false),(bo true),(bo false)],oT [(bo false),(bo false),(bo false)],oT [(bo false),(bo false),(bo true)]],
 fB 955 (cl 132) "_law_take" "_law_take" 2016 655 2 ["pile","most"] nV rH,
 fB 962 (cl 133) "_law_node" "_law_node" 2024 659 6 ["bag","kind","word","kids","flags","sort","node"] nV rH,
 fB 969 (cl 134) "_law_name" "_law_name" 2037 665 2 ["bag","word"] nV rH,
 fB 976 (cl 135) "_law_list" "_law_list" 2045 667 2 ["bag","kids"] nV rH,
 fB 983 (cl 136) "_law_block" "_law_block" 2053 669 2 ["bag","kids"] nV rH,
 fB 990 (cl 137) "_law_fold" "_law_fold" 2061 671 4 ["bag","start","words","row","hit","i"] nV rH,
 fB 997 (cl 138) "_law_call" "_law_call" 2073 676 4 ["bag","callee","args","sort"] nV rH,
 fB 1004 (cl 139) "_law_func" "_law_func" 2083 678 5 ["bag","start","params","body","flags"] nV rH,
 fB 1011 (cl 140) "_law_klass_node" "_law_klass_node" 2094 681 4 ["bag","start","base","members","kids"] nV rH,
 fB 1018 (cl 141) "_law_mark" "_law_mark" 2105 685 2 ["pile","bag","way","kids","inside","args","callee","start"] nV rH,
 fB 1025 (cl 142) "_law_round_expr" "_law_round_expr" 2119 711 4 ["pile","bag","start","node","way","param","field","piece","pattern","decl"] nV rH,
 fB 1032 (cl 143) "_law_round_stmt" "_law_round_stmt" 2135 743 4 ["pile","bag","start","node","way","member","clause"] nV rH,
 fB 1039 (cl 144) "_law_path" "_law_path" 2148 763 3 ["pile","bag","stmt","start","node","is_row","lap"] nV rH,
 fB 1046 (cl 145) "_law_init" "_law_init" 2161 777 3 ["pile","bag","out","start","node"] nV rH,
 fB 1053 (cl 146) "_law_pattern" "_law_pattern" 2172 784 4 ["pile","bag","out","deep","way","kids","lap","form","target"] nV rH,
 fB 1060 (cl 147) "_law_param" "_law_param" 2187 799 2 ["pile","bag","out","flags","pattern","own","prop"] nV rH,
 fS 1067 (cl 148) "_law_nids" 2200 806 1 rH,
 fS 1072 (cl 149) "_law_kept" 2206 808 3 rH,
 fS 1077 (cl 150) "_law_inits_right" 2212 810 4 rH,
 fS 1082 (cl 151) "_law_told" 2218 821 6 rH,
 fS 1087 (cl 152) "law" 2224 832 1 rH]
def gl(P:Params):List DictEntry:=[en P "__doc__" 166 nV,en P "__package__" 167 nV,en P "__loader__" 168 (bu "__main__.__loader__#opaque"),en P "__spec__" 169 nV]++es P [("__annotations__",170,6),("__builtins__",171,4)]++ [en P "__file__" 173 (s "/claim/cut.py" 172),en P "__cached__" 174 nV]++es P [("_wall",193,21)]++ei P [("K_NUM",197,1),("K_TPL",199,3),("K_NAME",201,8),("K_THIS",203,9),("K_SUPER",205,10),("K_ARRAY",207,11),("K_SPREAD",209,15),("K_MEMBER",211,16),("K_INDEX",213,17),("K_CALL",215,18),("K_NEW",217,19),("K_UNARY",219,21),("K_UPDATE",221,22),("K_LOGIC",223,24),("K_ASSIGN",225,25),("K_FUNC",227,27),("K_PARAM",229,28),("K_PAREN",231,33),("K_OBJPAT",233,34),("K_ARRPAT",235,35),("K_BIND",237,36),("K_FILE",239,40),("K_VAR",241,41),("K_DECL",243,42),("K_EXPRST",245,43),("K_IF",247,44),("K_WHILE",249,45),("K_SWITCH",251,50),("K_CASE",253,51),("K_RETURN",255,52),("K_THROW",257,56),("K_TRY",259,57),("K_BLOCK",261,59),("K_CLASS",263,61),("K_FIELD",265,62),("K_LIST",267,71),("F_ARROW",269,4),("F_EXPRBODY",271,8),("F_DECL",273,16),("F_METHOD",275,32),("F_CTOR",277,256),("F_REST",279,8192),("F_PRIVATE",281,16384),("F_PROTECTED",283,32768),("F_PUBLIC",285,65536),("F_READONLY",287,131072),("F_STATIC",289,262144)]++es P [("NODE_WORDS",557,22),("Node",595,44),("flagged",606,55),("has",614,62),("bare",621,69),("walk_nodes",633,76),("number_nodes",643,83)]++ei P [("M_CLASS",647,6)]++es P [("Symbol",688,100),("Bound",722,121),("calls_class_node",734,132),("own_ctors",740,137),("stands_within",746,142),("in_constructor",757,149),("is_param_prop",765,154),("ctor_with_body",773,161),("param_props",779,166),("stands_direct",785,171)]++ei P [("U_FIELD",789,12)]++es P [("KeepError",820,189),("TooDeep",849,210),("HostFault",876,230),("Diag",918,256),("Diags",966,292),("Notes",1020,334)]++ei P [("Y_KEY",1024,1),("Y_BOOL",1026,2),("Y_UNION",1028,6),("Y_OBJ",1030,8),("Y_SIG",1032,13),("STRING",1034,6),("ERR",1036,13),("P_READONLY",1038,2),("D_CLASS",1040,1)]++es P [("FIRST_ROWS",1062,361),("TypeTable",1117,392),("Decl",1162,413),("sig_type",1175,426)]++ei P [("MOST_DEEP",1179,50)]++es P [("Guard",1231,457),("Roads",1270,485),("Judge",1389,569),("Patterns",1440,604),("Giver",1470,625),("Places",1508,653),("FuncRule",1538,674),("Sheet",1838,856),("check_stmt",1848,867),("stays_told",1854,872),("take_back",1860,877),("given_kind",1871,884),("want_fit",1886,891),("returns_in",1899,898)]++ei P [("L_START",1901,1),("L_CALL",1903,7)]++es P [("is_super_call",1912,905),("param_inits",1918,910),("super_calls",1929,917),("early_road",1940,924),("stands_top",1949,931),("has_inits",1957,938),("check_super",1963,943),("EFFECTS",1966,944),("deeds_of",1972,949),("_law_base",2003,950)]++ei P [("_law_super",2005,1),("_law_deed",2007,2),("_law_return",2009,3),("_law_border",2011,4)]++es P [("_law_open",2012,951),("_law_arrow",2013,952),("_law_own",2014,953),("_law_klass",2015,954),("_law_take",2023,961),("_law_node",2036,968),("_law_name",2044,975),("_law_list",2052,982),("_law_block",2060,989),("_law_fold",2072,996),("_law_call",2082,1003),("_law_func",2093,1010),("_law_klass_node",2104,1017),("_law_mark",2118,1024),("_law_round_expr",2134,1031),("_law_round_stmt",2147,1038),("_law_path",2160,1045),("_law_init",2171,1052),("_law_pattern",2186,1059),("_law_param",2199,1066),("_law_nids",2205,1071),("_law_kept",2211,1076),("_law_inits_right",2217,1081),("_law_told",2223,1086),("law",2229,1091)]
def d3(P:Params)(v:Value)(m n:Nat):Obj:=oD (en P "__name__" 165 v::(gl P).take m) n
def QZ:List Value:=uv 0 [(1,20),(53,33),(62,54),(64,61),(66,68),(70,75),(83,82),(91,89),(102,110),(112,131),(119,136),(121,141),(132,148),(141,153),(144,160),(149,165),(154,170),(165,177),(170,198),(175,218),(180,238),(190,266),(201,302),(228,367),(254,402),(272,425),(276,432),(286,467),(293,495),(324,579),(337,614),(341,635),(348,663),(353,684),(487,866),(503,871),(507,876),(526,883),(539,890),(550,897),(565,904),(567,909),(581,916),(593,923),(607,930),(612,937),(617,942),(635,948),(655,960),(659,967),(665,974),(667,981),(669,988),(671,995),(676,1002),(678,1009),(681,1016),(685,1023),(711,1030),(743,1037),(763,1044),(777,1051),(784,1058),(799,1065),(806,1070),(808,1075),(810,1080),(821,1085),(832,1090)]
def LQ(m:Nat):Obj:=oN (QZ.take m)
def LR:Obj:=⟨(ty "type"),none,(.cls ⟨"KeepError",[(ty "Exception")],[(r 189),(ty "Exception"),(ty "BaseException"),(ty "object")],188,"KeepError",true,[],[],false,none,false⟩),#[some (r 172),none,some (s "KeepError" 790),some (s "KeepError" 798),some (bu "Exception.__new__"),some (bo true)]⟩
def LS:Obj:=⟨(ty "type"),none,(.cls ⟨"KeepError",[(ty "Exception")],[(r 189),(ty "Exception"),(ty "BaseException"),(ty "object")],188,"KeepError",true,[],[(r 210)],false,none,false⟩),#[some (r 172),none,some (s "KeepError" 790),some (s "KeepError" 798),some (bu "Exception.__new__"),some (bo true)]⟩
def jz:Obj:=⟨(ty "type"),none,(.cls ⟨"KeepError",[(ty "Exception")],[(r 189),(ty "Exception"),(ty "BaseException"),(ty "object")],188,"KeepError",true,[],[(r 210),(r 230)],false,none,false⟩),#[some (r 172),none,some (s "KeepError" 790),some (s "KeepError" 798),some (bu "Exception.__new__"),some (bo true)]⟩
def cat(l:List (List Obj)):List Obj:=List.rec [] (λx a b=>List.rec b (λy a k=>y::k) x) l
def tr(P:Params):BT:=bt 11 (boot_o_0 P::boot_o_1 P::o2 P::d3 P nV 0 0::boot_o_4 P::boot_o_5 P::boot_o_6 P::boot_o_7 P::boot_o_8 P::boot_o_9 P::boot_o_10 P::oT []::LQ 0::cat (ob P))
noncomputable abbrev sh(S:BT)(a b:Nat)(os:OsState):SharedT:=⟨S,a,{},#[],{},b,os⟩
abbrev sg(w:World)(os:OsState)(n:Nat)(S:BT)(a b:Nat)(l:List Stmt)(p:Pos)(c:BT)(d f:Nat)(e:Pos):Prop:=
 K0 OF pw w 11 (some (.ref 6)) 1 n (sh S a b os) (piecesOf l env cd p B)=some (.next,sh c d f os,cd,e)
def ct(P:Params)(n:Nat)(d:Obj)(m:Value)(a b c:Nat)(x:Obj):BT:=H7 n d (d3 P m a b) (LQ c) x (tr P) 1 0
def S0(P:Params):BT:=H7 15 (boot_o_2 P) (boot_o_3 P) (LQ 0) (oT []) (tr P) 1 0
def S1(P:Params):BT:=ct P 22 (boot_o_2 P) m2 49 50 3 (oT [])
def S2(P:Params):BT:=ct P 22 (boot_o_2 P) m2 56 57 3 (oT [])
def S3(P:Params):BT:=ct P 28 (boot_o_2 P) m2 57 58 3 (oT [])
def S4(P:Params):BT:=ct P 84 (boot_o_2 P) m3 63 64 21 (oT [])
def S5(P:Params):BT:=ct P 105 (boot_o_2 P) m3 65 66 24 (oT [])
def S6(P:Params):BT:=ct P 155 (boot_o_2 P) m5 71 72 42 (oT [])
def S7(P:Params):BT:=ct P 193 (o2 P) m6 76 77 54 LR
def S8(P:Params):BT:=ct P 213 (o2 P) m6 77 78 57 LS
def S9(P:Params):BT:=ct P 233 (o2 P) m6 78 79 60 jz
def S10(P:Params):BT:=ct P 261 (o2 P) m6 79 80 63 jz
def S11(P:Params):BT:=ct P 297 (o2 P) m6 80 81 66 jz
def S12(P:Params):BT:=ct P 339 (o2 P) m7 89 90 69 jz
def S13(P:Params):BT:=ct P 362 (o2 P) m7 91 92 69 jz
def S14(P:Params):BT:=ct P 397 (o2 P) m7 92 93 72 jz
def S15(P:Params):BT:=ct P 427 (o2 P) m8 95 96 78 jz
def S16(P:Params):BT:=ct P 462 (o2 P) m8 96 97 81 jz
def S17(P:Params):BT:=ct P 490 (o2 P) m8 97 98 84 jz
def S18(P:Params):BT:=ct P 574 (o2 P) m8 98 99 87 jz
def S19(P:Params):BT:=ct P 609 (o2 P) m8 99 100 90 jz
def S20(P:Params):BT:=ct P 630 (o2 P) m8 100 101 93 jz
def S21(P:Params):BT:=ct P 658 (o2 P) m8 101 102 96 jz
def S22(P:Params):BT:=ct P 679 (o2 P) m8 102 103 99 jz
def S23(P:Params):BT:=ct P 861 (o2 P) m8 103 104 102 jz
def SP(P:Params):BT:=ct P 932 (o2 P) K4 116 117 135 jz
def S25(P:Params):BT:=ct P 990 (o2 P) rH 134 135 159 jz
def S26(P:Params):BT:=ct P 1067 (o2 P) rH 145 146 192 jz
def K5(P:Params):BT:=ct P 1092 (o2 P) rH 150 151 207 jz
def Ro(w:World)(os:OsState):sg w os 399 (S0 w.params) 15 187 (sts 0 42) ⟨0,0,0,0⟩ (S1 w.params) 22 276 ⟨44,0,44,8⟩:=by kernel_rfl
def Rp(w:World)(os:OsState):sg w os 64 (S1 w.params) 22 276 (sts 42 7) ⟨44,0,44,8⟩ (S2 w.params) 22 290 ⟨51,0,51,8⟩:=by kernel_rfl
def OG(w:World)(os:OsState):sg (w.withFollow "special-get-raises" false) os 1635 (S2 (w.withFollow "special-get-raises" false).params) 22 290 (sts 49 1) ⟨51,0,51,8⟩ (S3 (w.withFollow "special-get-raises" false).params) 28 558 ⟨52,0,52,10⟩:=by kernel_rfl
def OH(w:World)(os:OsState):sg (w.withFollow "special-get-raises" true) os 1635 (S2 (w.withFollow "special-get-raises" true).params) 22 290 (sts 49 1) ⟨51,0,51,8⟩ (S3 (w.withFollow "special-get-raises" true).params) 28 558 ⟨52,0,52,10⟩:=by kernel_rfl
def Rq(w:World):∀os:OsState,sg w os 1635 (S2 w.params) 22 290 (sts 49 1) ⟨51,0,51,8⟩ (S3 w.params) 28 558 ⟨52,0,52,10⟩:=
 byRow2 "special-get-raises" (P:=λw=>∀os:OsState,sg w os 1635 (S2 w.params) 22 290 (sts 49 1) ⟨51,0,51,8⟩ (S3 w.params) 28 558 ⟨52,0,52,10⟩) OG OH w
def Rr(w:World)(os:OsState):sg w os 399 (S3 w.params) 28 558 (sts 50 7) ⟨52,0,52,10⟩ (S4 w.params) 84 646 ⟨89,0,89,8⟩:=by kernel_rfl
def Rt(w:World)(os:OsState):sg w os 244 (S4 w.params) 84 646 (sts 57 2) ⟨89,0,89,8⟩ (S5 w.params) 105 689 ⟨91,0,101,20⟩:=by kernel_rfl
def Ru(w:World)(os:OsState):sg w os 389 (S5 w.params) 105 689 (sts 59 8) ⟨91,0,101,20⟩ (S6 w.params) 155 766 ⟨141,0,143,82⟩:=by kernel_rfl
def Rv(w:World)(os:OsState):sg w os 332 (S6 w.params) 155 766 (sts 67 6) ⟨141,0,143,82⟩ (S7 w.params) 193 821 ⟨165,0,169,24⟩:=by kernel_rfl
def Rw(w:World)(os:OsState):sg w os 251 (S7 w.params) 193 821 (sts 73 1) ⟨165,0,169,24⟩ (S8 w.params) 213 850 ⟨170,0,174,24⟩:=by kernel_rfl
def Rx(w:World)(os:OsState):sg w os 249 (S8 w.params) 213 850 (sts 74 1) ⟨170,0,174,24⟩ (S9 w.params) 233 877 ⟨175,0,179,24⟩:=by kernel_rfl
def Ry(w:World)(os:OsState):sg w os 260 (S9 w.params) 233 877 (sts 75 1) ⟨175,0,179,24⟩ (S10 w.params) 261 919 ⟨180,0,189,48⟩:=by kernel_rfl
def OI(w:World)(os:OsState):sg w os 291 (S10 w.params) 261 919 (sts 76 1) ⟨180,0,189,48⟩ (S11 w.params) 297 967 ⟨190,0,200,16⟩:=by kernel_rfl
def OJ(w:World)(os:OsState):sg w os 401 (S11 w.params) 297 967 (sts 77 10) ⟨190,0,200,16⟩ (S12 w.params) 339 1039 ⟨225,0,225,10⟩:=by kernel_rfl
def OL(w:World)(os:OsState):sg w os 117 (S12 w.params) 339 1039 (sts 87 2) ⟨225,0,225,10⟩ (S13 w.params) 362 1063 ⟨227,0,227,10⟩:=by kernel_rfl
def OM(w:World)(os:OsState):sg w os 297 (S13 w.params) 362 1063 (sts 89 1) ⟨227,0,227,10⟩ (S14 w.params) 397 1118 ⟨228,0,253,16⟩:=by kernel_rfl
def ON(w:World)(os:OsState):sg w os 295 (S14 w.params) 397 1118 (sts 90 4) ⟨228,0,253,16⟩ (S15 w.params) 427 1180 ⟨275,0,275,9⟩:=by kernel_rfl
def OO(w:World)(os:OsState):sg w os 294 (S15 w.params) 427 1180 (sts 94 1) ⟨275,0,275,9⟩ (S16 w.params) 462 1232 ⟨276,0,285,16⟩:=by kernel_rfl
def OP(w:World)(os:OsState):sg w os 257 (S16 w.params) 462 1232 (sts 95 1) ⟨276,0,285,16⟩ (S17 w.params) 490 1271 ⟨286,0,292,16⟩:=by kernel_rfl
def OQ(w:World)(os:OsState):sg w os 529 (S17 w.params) 490 1271 (sts 96 1) ⟨286,0,292,16⟩ (S18 w.params) 574 1390 ⟨293,0,323,55⟩:=by kernel_rfl
def OS(w:World)(os:OsState):sg w os 293 (S18 w.params) 574 1390 (sts 97 1) ⟨293,0,323,55⟩ (S19 w.params) 609 1441 ⟨324,0,336,21⟩:=by kernel_rfl
def OT(w:World)(os:OsState):sg w os 224 (S19 w.params) 609 1441 (sts 98 1) ⟨324,0,336,21⟩ (S20 w.params) 630 1471 ⟨337,0,340,17⟩:=by kernel_rfl
def OU(w:World)(os:OsState):sg w os 256 (S20 w.params) 630 1471 (sts 99 1) ⟨337,0,340,17⟩ (S21 w.params) 658 1509 ⟨341,0,347,16⟩:=by kernel_rfl
def OV(w:World)(os:OsState):sg w os 224 (S21 w.params) 658 1509 (sts 100 1) ⟨341,0,347,16⟩ (S22 w.params) 679 1539 ⟨348,0,352,51⟩:=by kernel_rfl
def OW(w:World)(os:OsState):sg w os 1046 (S22 w.params) 679 1539 (sts 101 1) ⟨348,0,352,51⟩ (S23 w.params) 861 1839 ⟨353,0,486,19⟩:=by kernel_rfl
def OX(w:World)(os:OsState):sg w os 376 (S23 w.params) 861 1839 (sts 102 15) ⟨353,0,486,19⟩ (SP w.params) 932 1950 ⟨607,0,611,16⟩:=by kernel_rfl
def OY(w:World)(os:OsState):sg w os 394 (SP w.params) 932 1950 (sts 117 20) ⟨607,0,611,16⟩ (S25 w.params) 990 2061 ⟨669,0,670,50⟩:=by kernel_rfl
def OZ(w:World)(os:OsState):sg w os 382 (S25 w.params) 990 2061 (sts 137 11) ⟨669,0,670,50⟩ (S26 w.params) 1067 2200 ⟨799,0,805,88⟩:=by kernel_rfl
def O0(w:World)(os:OsState):sg w os 131 (S26 w.params) 1067 2200 (sts 148 5) ⟨799,0,805,88⟩ (K5 w.params) 1092 2230 ⟨832,0,890,64⟩:=by kernel_rfl
def H8:treeTable=PySem.W.Fast.tw14364793385576792824:=PySem.W.Fast.te14364793385576792824
def O1: @segRunT=PySem.W.Fast.tw10110043849684766642:=PySem.W.Fast.te10110043849684766642
def O2: @topRun=PySem.W.Fast.tw14082659384304107361:=PySem.W.Fast.te14082659384304107361
def Rz: @topGo=PySem.W.Fast.tw15667345088766844465:=PySem.W.Fast.te15667345088766844465
def O3: @denote=PySem.W.Fast.tw11892475500146522536:=PySem.W.Fast.te11892475500146522536
def LU: @segRun=PySem.W.Fast.tw14374325043358763698:=PySem.W.Fast.te14374325043358763698
def RA{p:Program}{w:World}{a:Nat}{ann:Option Value}{b n:Nat}{s:SharedT}{t:Thread}{r:Flow×SharedT×Code×Pos}(h:K0 OF p w a ann b n s t=some r):segRunT treeTable p w a ann b n s t=some r:=by
 rw [H8,O1];exact h
abbrev fi(w:World)(os:OsState):Shared:=SharedT.abs (sh (K5 w.params) 1092 2230 os)
abbrev tp(w:World)(os:OsState)(n:Nat)(S:BT)(a b:Nat)(l:List Stmt)(p:Pos):Prop:=
 topRun treeTable pw w 11 (some (.ref 6)) n (SharedT.abs (sh S a b os)) (restOf l env cd p B)=some (fi w os)
def fin(w:World)(os:OsState):tp w os 2 (K5 w.params) 1092 2230 [] ⟨832,0,890,64⟩:=by
 show topRun treeTable pw w 11 (some (.ref 6)) 2 (fi w os) ⟨doneF .next,cd,⟨832,0,890,64⟩,B⟩=some (fi w os);rw [H8,O2]
 kernel_rfl
def nx{w:World}{os:OsState}{n N:Nat}{S c:BT}{a b d f:Nat}{l r:List Stmt}{p e:Pos}(h:sg w os n S a b l p c d f e)(k:tp w os N c d f r e):tp w os (n+N) S a b (l++r) p:=
 piece_app (segRun_of (RA h)) k
abbrev O4:List Stmt:=sts 0 42++(sts 42 7++(sts 49 1++(sts 50 7++(sts 57 2++(sts 59 8++(sts 67 6++(sts 73 1++(sts 74 1++(sts 75 1++(sts 76 1++(sts 77 10++(sts 87 2++(sts 89 1++(sts 90 4++(sts 94 1++(sts 95 1++(sts 96 1++(sts 97 1++(sts 98 1++(sts 99 1++(sts 100 1++(sts 101 1++(sts 102 15++(sts 117 20++(sts 137 11++(sts 148 5++ []))))))))))))))))))))))))))
def TN(w:World)(os:OsState):tp w os 10031 (S0 w.params) 15 187 O4 ⟨0,0,0,0⟩:=
 nx (Ro w os) (nx (Rp w os) (nx (Rq w os) (nx (Rr w os) (nx (Rt w os) (nx (Ru w os) (nx (Rv w os) (nx (Rw w os) (nx (Rx w os) (nx (Ry w os) (nx (OI w os) (nx (OJ w os) (nx (OL w os) (nx (OM w os) (nx (ON w os) (nx (OO w os) (nx (OP w os) (nx (OQ w os) (nx (OS w os) (nx (OT w os) (nx (OU w os) (nx (OV w os) (nx (OW w os) (nx (OX w os) (nx (OY w os) (nx (OZ w os) (nx (O0 w os) (fin w os)))))))))))))))))))))))))))
def whole:behindTheImports pw=O4:=by kernel_rfl
def pre(w:World)(os:OsState):topGo treeTable pw w 11 (some (.ref 6)) 12 ⟨boot_heap w.params,#[],boot_drawn,boot_toks,os⟩ (topStub pw)=some (SharedT.abs (sh (S0 w.params) 15 187 os),⟨denote treeTable (.body (behindTheImports pw) env),cd,⟨0,0,0,0⟩,B⟩):=by
 rw [H8,Rz,O3]
 kernel_rfl
def block(w:World)(os:OsState):segRun treeTable pw w 11 (some (.ref 6)) 1 1 (SharedT.abs (sh (S0 w.params) 15 187 os)) (blockOf (behindTheImports pw) env cd ⟨0,0,0,0⟩ B)=some (.next,SharedT.abs (sh (S0 w.params) 15 187 os),cd,⟨0,0,0,0⟩):=by
 rw [H8,LU]
 kernel_rfl
def run(w:World)(os:OsState):topRun treeTable pw w 11 (some (.ref 6)) (12+(1+10031)) ⟨boot_heap w.params,#[],boot_drawn,boot_toks,os⟩ (topStub pw)=some (fi w os):=
 go_top (pre w os) (piece_block (block w os) (by rw [whole];exact TN w os))
def loose:List Str:=(pw.main.scope.names.map (·.1)).filter (·!= Str.ofString "law")
abbrev H1(P:Params):Heap:=absHeap (K5 P) 1092 {}
abbrev qv:Program:={pw with main:={pw.main with body:=[cl 152]}}
def size(w:World):((boot_heap w.params).isNs mainGlobals&&(#[]:Array GenState).size==0,(boot_heap w.params).objs.size,(boot_heap w.params).nsMap mainGlobals "__annotations__")=(true,11,some (.ref 6)):=by kernel_rfl
def fence(s:Shared):fenceModules? pw s=some s:=by kernel_rfl
def opens:opening pw=plainProg pw.main.scope.names:=by kernel_rfl
def TP(w:World)(os:OsState):(staticsOk (importedModules pw.main.body) (boot_heap w.params) (H1 w.params)&&namesBound pw (H1 w.params)&&gensDone ⟨H1 w.params,#[],{},2230,os⟩&&laidKept (boot_heap w.params) (H1 w.params))=true:=by kernel_rfl
def TQ(w:World)(os:OsState):openSeen qv loose (importedModules pw.main.body) (λa=>true) true ⟨H1 w.params,#[],{},2230,os⟩=openGood qv loose:=by kernel_rfl
noncomputable abbrev rw:OpenLaw:=PySem.Challenge.rw_up0037_01
abbrev vJ:DefRec:=⟨Str.ofString "law",A_ (cl 152),Bc (cl 152),xY (cl 152),(match cl 152 with | .FunctionDef _ _ _ _ _ _ _ _ _ p=>p |_=>⟨0,0,0,0⟩)⟩
abbrev RB(w:World)(h:Heap):Prop:=∀b o,(H1 w.params).get? b=some o->h.get? b=some o
def left:LeftO pw qv loose (λa=>true) (λs=>s.heap) (λw=>H1 w.params) 12000:=
 LeftO.of_pieces (H₀:=boot_heap) (H₁:=H1) (gs₀:=#[]) (gs₁:=#[]) (d₀:=boot_drawn) (d₁:={}) (k₀:=boot_toks) (k₁:=2230) (m₀:=11) (ann:=some (.ref 6)) (M:=12+(1+10031))
  (boot_open opens (by decide) fence) size (λw os=>run w os) (by decide)
  (λw=>funext λos=>by
   refine Prod.ext (TP w os) (Prod.ext (TQ w os) rfl))
def hdef:defOf qv rw.row.name=some (vJ,[]):=by kernel_rfl
def RC:rw.row.prog.theDef rw.row.name=some (vJ.params,vJ.body,vJ.scope):=by kernel_rfl
def hkw:kwWritten? vJ.params.kwonlyargs vJ.params.kw_defaults=some []:=by kernel_rfl
def hok:(chainsOk qv&&opensWell rw.row.prog&&(frees rw.row.toRowW&&rw.row.within.isEmpty))=true:=by kernel_rfl
def RD:rw.row.toRowW.promised:=⟨[.list []],by decide+kernel,by decide+kernel⟩
def htb:TablesWhole.wModule TablesWhole.holds rw.row.prog.main=true:=by rw [@PySem.W.Fast.te6116379765354995101];kernel_rfl
def htab:rw.row.prog.tablesWhole=true:=by
 unfold Program.tablesWhole TablesWhole.wProgram;rw [htb];kernel_rfl
def hbare:rw.row.prog.bare:=⟨rfl,rfl,rfl,rfl,rfl,htab⟩
def head(k1:rw.row.wellSaid=true)(call:WalkO qv loose (λa a=>True) RB rw.row.toRowW vJ [] λf vs=>PySem.call f vs):rw.row.Holds:=
 holds_open (r:=rw.row) (q:=qv) (loose:=loose) (Xt:=λa=>true) (XP:=λa a=>True) (Yf:=λs=>s.heap) (Ya:=λw=>H1 w.params) (YP:=RB) (d:=vJ) (kwd:=[]) (N:=12000)
  left (λw s e b o q=>by rw [e];exact q) (λw h h' y k b o q=>k b o (y b o q)) (λa a=>trivial) (λa a a a a=>trivial)
  hdef RC hkw (λs a=>recFacts_nil rfl) rfl k1 hok hbare RD call
end H
end
section
open PySem.Calls PyProof.Rows
def LJ{P:Params}{a:Addr}{o:Obj}(d:Nat.ble (a+1) 1092=true)(c:(H.K5 P).get a=some o)(b:o.alive=true):(H.H1 P).get? a=some o:=
 (Heap.get?_eq_some _ _ _).mpr ⟨by rw [absHeap_at,if_pos (show a<1092 from bI d),c];rfl,b⟩
noncomputable def LK:List Addr:=[44,100,121,256,292,334,392,413,457,485,569,604,625,653,674,856,43,99,120,255,291,333,391,412,456,484,568,603,624,652,673,855,41,55,62,69,76,83,97,118,132,137,142,149,154,161,166,171,246,253,275,282,310,317,375,389,410,503,475,692,755,762,776,898,905,910,917,931,938,943,949,961,968,975,982,989,996,1003,1010,1017,1024,1031,1038,1045,1052,1059,1066,1071,1076,1081,1086,1091]
noncomputable def Uo:List Addr:=[43,99,120,255,291,333,391,412,456,484,568,603,624,652,673,855]
noncomputable def Rj(k:Nat):Addr:=Uo.getD k 0
@[irreducible] def H6(P:Params)(a:Addr):Obj:=((H.K5 P).get a).getD default
def kf(P:Params):Frag:=LK.map λa=>(a,H6 P a)
def rF{f:Addr->Obj}{a:Addr}{o:Obj}:∀{l:List Addr},(l.map λa=>(a,f a)).lookup a=some o->a ∈ l/\o=f a:=by
 intro zl
 induction zl with
 |nil=>
  intro h;cases h
 |cons b l g=>
  intro h;rw [cP,List.lookup_cons]at h;by_cases e:a=b
  .subst e;simp at h;exact⟨cW,h.symm⟩
  .have:(a==b)=false:=by simp [e]
   rw [this]at h;obtain ⟨d,c⟩:=g h;exact⟨gh _ d,c⟩
def zH(P:Params)(a:Addr):Bool:=Nat.ble (a+1) 1092&&(match (H.K5 P).get a with
 |some o=>o.alive
 |none=>false)
def at_of{P:Params}{a:Addr}(h:zH P a=true):(H.H1 P).get? a=some (H6 P a):=by
 unfold zH at h;simp only [cM]at h
 cases e:(H.K5 P).get a with
 |none=>rw [e]at h;exact absurd h.2 (by simp)
 |some o=>rw [e]at h;unfold H6;rw [e];exact LJ h.1 e h.2
def KP(P:Params):LK.all (zH P)=true:=by kernel_rfl
abbrev Y1(P:Params)(h:Heap):Prop:=∀b o,(H.H1 P).get? b=some o->h.get? b=some o
def KQ{P:Params}{h:Heap}(Y:Y1 P h):(kf P).In h:=λa o e=>by
 obtain ⟨b,c⟩:=rF e;rw [c];exact Y _ _ (at_of (List.all_eq_true.mp (KP P) a b))
noncomputable def KU(o:Obj):Array DictEntry:=match o.data with
 | .dict es _=>es
 |_=>#[]
def Od(P:Params)(x:Str):Option Value:=nsFind (KU (H6 P 3)) x
def Sp(P:Params)(x:Str):Option Value:=nsFind (KU (H6 P 0)) x
def nsOk(P:Params)(a:Addr):Bool:=zH P a&&(match (H6 P a).data with
 | .dict es _=>es.toList.all λe=>match e.key with
  | .str _ _=>true
  |_=>false
 |_=>false)
set_option tactic.hygienic true in
def LL{P:Params}{h:Heap}{a:Addr}(Y:Y1 P h)(ok:nsOk P a=true):h.Ns a (λx=>nsFind (KU (H6 P a)) x):=by
 unfold nsOk at ok;simp only [cM]at ok;have g:=Y _ _ (at_of ok.1);have k:=ok.2;split at k
 .rename_i es c b;refine⟨_,es,c,g,b,λe f=> ?_,λx=>by unfold KU;rw [b]⟩;have:=List.all_eq_true.mp k e (Array.mem_toList_iff.mpr f);split at this
  .rename_i n t d;exact⟨n,t,d⟩
  .cases this
 .cases k
def Uq(P:Params):nsOk P 3=true:=by kernel_rfl
def Ur(P:Params):nsOk P 0=true:=by kernel_rfl
noncomputable def Qy(f:V->Value->Bool):List V->List Value->Bool
 | [],[]=>true
 |a::l,b::m=>f a b&&Qy f l m
 | [],_::_=>false
 |_::_,[]=>false
noncomputable def LM(o:Obj):Option (Array Value×Nat):=match o with
 |⟨.type c,none,.seq vs n,sl⟩=>if c=="tuple"&&sl.isEmpty then some (vs,n)else none
 |_=>none
set_option tactic.hygienic true in
def HK{o:Obj}{vs:Array Value}{n:Nat}(h:LM o=some (vs,n)):o=gZ vs n:=by
 obtain ⟨c,e,d,sl⟩:=o;cases c<;>first |exact oo h |skip
 cases e<;>first |exact oo h |skip
 cases d<;>first |exact oo h |skip
 rename_i c a b
 cases k:(c=="tuple"&&sl.isEmpty)with
 |false=>exact oo (by rw [<-h];show none=ite _ _ _;rw [k];rfl)
 |true=>
  have h:some (a,b)=some (vs,n):=by rw [<-h];show _=ite _ _ _;rw [k];rfl
  cases h;exact kT k λk1 k2=>by rw [eq_of_beq k1,Array.isEmpty_iff.mp k2]
noncomputable def wN:Value->Bool
 | .none=>true
 |_=>false
noncomputable def wB:Value->Option Bool
 | .bool b=>some b
 |_=>none
noncomputable def wI:Value->Option Int
 | .int i _=>some i
 |_=>none
noncomputable def wS:Value->Option Str
 | .str x _=>some x
 |_=>none
noncomputable def wR:Value->Option Addr
 | .ref a=>some a
 |_=>none
def Sq(P:Params)(f:V->Value->Bool)(v:V)(w:Value):Bool:=match v with
 | .none=>wN w
 | .bool a=>opt (wB w) λb=>a==b
 | .int a=>opt (wI w) λb=>a==b
 | .str n=>opt (wS w) λx=>x==sn n
 | .tup l=>opt (wR w) λa=>zH P a&&opt (LM (H6 P a)) λr=>Qy f l r.1.toList
 | .ref _=>false
def HL(P:Params):Nat->V->Value->Bool
 |0=>Sq P λa a=>false
 |k+1=>Sq P (HL P k)
theorem HM{h:Heap}{f:V->Value->Bool}(c:∀v w,f v w=true->VR [] h v w):∀(l:List V) (m:List Value),Qy f l m=true->cH [] h l m
 | [],[],_=> .nil
 |a::l,b::m,e=>kT e λe1 e2=> .cons (c a b e1) (HM c l m e2)
 | [],_::_,e=>ff e
 |_::_,[],e=>ff e
def HN{P:Params}{h:Heap}(Y:Y1 P h){f:V->Value->Bool}(c:∀v w,f v w=true->VR [] h v w){v:V}{w:Value}(e:Sq P f v w=true):VR [] h v w:=by
 cases v with
 |none=>cases w<;>first |exact ff e |exact .none
 |bool a=>exact lV e λb e1 e2=>by cases w<;>first |exact oo e1 |(cases fE e1;rw [eq_of_beq e2];exact .bool _)
 |int a=>exact lV e λb e1 e2=>by cases w<;>first |exact oo e1 |(cases fE e1;rw [eq_of_beq e2];exact .int _ _)
 |str n=>exact lV e λb e1 e2=>by cases w<;>first |exact oo e1 |(cases fE e1;rw [eq_of_beq e2];exact .str _ _)
 |ref a=>exact ff e
 |tup l=>
  refine lV e λa e1 e2=>kT e2 λe2 j=>lV j λr k d=> ?_;cases w<;>first |exact oo e1 |skip
  cases fE e1;have g:=Y _ _ (at_of e2);rw [HK k]at g;exact .tup l a r.1 r.2 g (HM c l _ d)
theorem zI{P:Params}{h:Heap}(Y:Y1 P h):∀{k:Nat} {v:V} {w:Value},HL P k v w=true->VR [] h v w
 |0,_,_,e=>HN Y (λa a e=>ff e) e
 |k+1,_,_,e=>HN Y (λv w e=>zI Y e) e
def Us(P:Params):((List.range 60).all λg=>match Od P (Str.ofString (Lr.getD g ""))with
 |some w=>HL P 4 (bU g) w
 |none=>false)=true:=by kernel_rfl
def Ut(P:Params):((List.range 60).all λf=>yX f||(match Od P (Str.ofString (D5.getD f ""))with
 |some (.ref a)=>a==pN f
 |_=>false))=true:=by kernel_rfl
def Uu(P:Params):((List.range 16).all λk=>(match Od P (Str.ofString (Qi.getD k ""))with
 |some (.ref a)=>a==ca k
 |_=>false))=true:=by kernel_rfl
def Uv(P:Params):(["len","sorted","any"].all λx=>(Od P (Str.ofString x)).isNone&&(match Sp P (Str.ofString x)with
 |some (.builtin y)=>y==x
 |_=>false))=true:=by kernel_rfl
def Uw(P:Params):(["list","range","reversed"].all λx=>(Od P (Str.ofString x)).isNone&&(match Sp P (Str.ofString x)with
 |some (.type y)=>y==x
 |_=>false))=true:=by kernel_rfl
def clss(P:Params):((List.range 16).all λk=>xB (kf P) k)=true:=by kernel_rfl
def mroOk(K:Frag)(k:Nat):Bool:=opt (K.lookup (ca k)) λo=>match o.data with
 | .cls cd=>cd.mro==[.ref (ca k),.type "object"]&&cd.ns==Rj k
 |_=>false
def HO(K:Frag)(k n:Nat):Bool:=match fj k n with
 |some g=>g==999||(nsIn K (Rj k) (sn n)==some (some (.ref (pN g)))&&typeIn K (.ref (pN g))==some (.type "function"))
 |none=>nsIn K (Rj k) (sn n)==some none
def Oe{K:Frag}{k n:Nat}(b:mroOk K k=true)(l:(fastBuiltinOwn "object" (sn n)).isNone=true)(a:HO K k n=true):qB K k n=true:=by
 have c:∀r,nsIn K (Rj k) (sn n)=some r->findIn K (.ref (ca k)) (sn n)=some r:=λr m=>by
  refine lV b λo e b=> ?_;obtain ⟨_,_,d,_⟩:=o;cases d<;>first |exact ff b |skip
  rename_i cd;exact kT b λj f=>by
   have b:=And.intro (eq_of_beq j) (eq_of_beq f);unfold findIn;dsimp only;rw [e];dsimp only;rw [b.1];have p:ownIn K (sn n) (.ref (ca k))=some r:=by
    unfold ownIn;dsimp only;rw [e];dsimp only;rw [b.2];exact m
   have o2:ownIn K (sn n) (.type "object")=some none:=by
    show some (fastBuiltinOwn "object" (sn n))=some none;rw [Option.isNone_iff_eq_none.mp l]
   unfold alongIn;rw [p]
   cases r with
   |some v=>rfl
   |none=>
    show alongIn K (sn n) [.type "object"]=some none;unfold alongIn;rw [o2];rfl
 unfold HO at a;unfold qB
 cases e:fj k n with
 |some g=>
  rw [e]at a;dsimp only at a ⊢;rw [CP]at a ⊢;refine a_ a (λa=> ?_) λa=> ?_
  .exact .inl a
  .right;rw [cM]at a ⊢;refine⟨?_,a.2⟩;rw [c _ (eq_of_beq a.1)];exact beq_self_eq_true _
 |none=>
  rw [e]at a;dsimp only at a ⊢;rw [c _ (eq_of_beq a)];exact beq_self_eq_true _
def Ss(P:Params):((List.range 16).all λk=>mroOk (kf P) k)=true:=by kernel_rfl
def objs:((List.range NS).all λn=>(fastBuiltinOwn "object" (sn n)).isNone)=true:=by kernel_rfl
def nss(P:Params):((List.range 16).all λk=>(List.range NS).all λn=>HO (kf P) k n)=true:=by kernel_rfl
def kps(P:Params):((List.range 60).all λf=>keepIn (kf P) (.ref (pN f)))=true:=by kernel_rfl
def Ux(P:Params):zH P 1=true:=by kernel_rfl
abbrev cfg(w:World)(h:Heap):Cfg:=⟨w,h,kf w.params,Od w.params,Sp w.params⟩
def j0{p:Nat->Bool}{n:Nat}(h:(List.range n).all p=true){k:Nat}(a:k<n):p k=true:=List.all_eq_true.mp h k (List.mem_range.mpr a)
set_option tactic.hygienic true in
def QK{w:World}{h:Heap}(Y:Y1 w.params h)(lim:h.NoLimit):fT (cfg w h) where
 X:=KQ Y
 lim:=lim
 Qh:=LL Y (Uq _)
 Tt:=LL Y (Ur _)
 gv:=λg p=>by
  have:=j0 (Us w.params) p;dsimp only at this ⊢
  cases e:Od w.params (Str.ofString (Lr.getD g ""))with
  |none=>rw [e]at this;cases this
  |some v=>rw [e]at this;exact⟨v,rfl,zI Y this⟩
 gf:=λf d o=>by
  have:=j0 (Ut w.params) d;dsimp only at this ⊢;rw [o,Bool.false_or]at this;split at this
  .rename_i a e;rw [e,beq_iff_eq.mp this]
  .cases this
 gk:=λk c=>by
  have:=j0 (Uu w.params) c;dsimp only at this ⊢;split at this
  .rename_i a e;rw [e,beq_iff_eq.mp this]
  .cases this
 gb:=λx j=>by
  have:=List.all_eq_true.mp (Uv w.params) x j;simp only [cM,Option.isNone_iff_eq_none]at this;have b:=this.2;split at b
  .rename_i a e;exact⟨this.1,e.trans (by rw [beq_iff_eq.mp b])⟩
  .cases b
 gt:=λx j=>by
  have:=List.all_eq_true.mp (Uw w.params) x j;simp only [cM,Option.isNone_iff_eq_none]at this;have b:=this.2;split at b
  .rename_i a e;exact⟨this.1,e.trans (by rw [beq_iff_eq.mp b])⟩
  .cases b
 cls:=λk c=>j0 (clss w.params) c
 fld:=λk c n m=>Oe (j0 (Ss w.params) c) (j0 objs m) (j0 (j0 (nss w.params) c) m)
 keep:=λf d=>j0 (kps w.params) d
 sm:=⟨_,Y _ _ (at_of (Ux _))⟩
def KW{f:Nat}{vs:List V}(h:(f==18)=false):fill f vs=vs:=by
 unfold fill;rw [if_neg];intro z;rw [z.1]at h;cases h
def A6{c:Cfg}{f:Nat}{e:FuncData}(k:(f==18)=false)(hb:∀a:List Value,a.length=iR f->bindArgs e ⟨a,[]⟩=pure ((oE f).zip a)):
  ∀(s:Shared) (vs:List V) (a:List Value) (ρ:dM) (h:Heap),(∀b o,c.b0.get? b=some o->s.heap.get? b=some o)->cH ρ h vs a->(fill f vs).length=iR f->∃d,d.length=iR f/\cH ρ h (fill f vs) d/\BindsTo s e ⟨a,[]⟩ ((oE f).zip d):=by
 intro s vs a ρ h _ j g;rw [KW k]at g ⊢;have:a.length=iR f:=j.length.trans g;exact⟨a,this,j,BindsTo.of_eq (hb a this)⟩
noncomputable def Of(a:FuncData):Bool:=a.scope.kind== .function&& !a.scope.isCoroutine&& !a.scope.isGenerator&&a.globals==mainGlobals&&a.builtins==builtinsNs&&a.closure.isEmpty
structure Su (fd:FuncData):Prop where
 kind:fd.scope.kind= .function
 co:fd.scope.isCoroutine=false
 gen:fd.scope.isGenerator=false
 glob:fd.globals=mainGlobals
 blt:fd.builtins=builtinsNs
 Ri:fd.closure=[]
def Sv{a:FuncData}(h:Of a=true):Su a:=by
 unfold Of at h;simp only [cM,beq_iff_eq,C6,List.isEmpty_iff]at h;obtain ⟨⟨⟨⟨⟨b,f⟩,e⟩,g⟩,c⟩,d⟩:=h;exact⟨b,f,e,g,c,d⟩
noncomputable def QL(a:Obj):Option Value:=match a.data with
 | .fields vs=>vs[1]?
 |_=>none
noncomputable def isQ(q:Str)(v:Option Value):Bool:=match v with
 |some (.str x _)=>x==q
 |_=>false
def codeOk(a:Obj)(q:Str):Bool:=a.alive&&isQ q (QL a)
set_option tactic.hygienic true in
def KX{h:Heap}{c:Addr}{a:Obj}{q:Str}(g:a.alive=true->h.get? c=some a)(ok:codeOk a q=true):h.CodeRec (.ref c) q:=by
 unfold codeOk at ok;rw [cM]at ok;have k:=ok.2;unfold isQ at k;split at k
 .rename_i x t e;unfold QL at e;split at e
  .rename_i vs b;exact⟨c,a,vs,t,rfl,g ok.1,b,by rw [e,beq_iff_eq.mp k]⟩
  .cases e
 .cases k
noncomputable def fnIn:Data->Option FuncData
 | .func a=>some a
 |_=>none
noncomputable def Ct:FuncBody->Option (List Stmt)
 | .stmts b=>some b
 |_=>none
noncomputable def zJ:Value->Option Addr
 | .ref a=>some a
 |_=>none
def QM(P:Params)(f:Nat):Option FuncData:=fnIn (H6 P (pN f)).data
def rG(P:Params)(f:Nat):FuncData:=(QM P f).getD (H.fdOf (H.cl 0) "" 0 .none .none .none)
def HP(P:Params)(f:Nat):Bool:=zH P (pN f)&&(QM P f).isSome&&((Ct (rG P f).body).isSome&&(zJ (rG P f).code).isSome)&&
 (Of (rG P f)&&zH P ((zJ (rG P f).code).getD 0)&&codeOk (H6 P ((zJ (rG P f).code).getD 0)) (rG P f).qualname)&&
 (xR f (rG P f).scope.names&&oB ⟨rE f,(rG P f).scope.names⟩ (Cu f) ((Ct (rG P f).body).getD []))
def KY:∀{d:Data},(fnIn d).isSome=true->d= .func ((fnIn d).getD (H.fdOf (H.cl 0) "" 0 .none .none .none)):=by
 intro d h;cases d<;>first |rfl |exact Bool.noConfusion h
def HQ:∀{d:FuncBody},(Ct d).isSome=true->d= .stmts ((Ct d).getD []):=by
 intro d h;cases d<;>first |rfl |exact Bool.noConfusion h
def HR:∀{d:Value},(zJ d).isSome=true->d= .ref ((zJ d).getD 0):=by
 intro d h;cases d<;>first |rfl |exact Bool.noConfusion h
def fns(P:Params):((List.range 60).all (HP P))=true:=by kernel_rfl
def QN{w:World}{h:Heap}{f:Nat}(Y:Y1 w.params h)(a:HP w.params f=true)
  (n:∀(s:Shared) (vs:List V) (d:List Value) (ρ:dM) (h':Heap),(∀b o,h.get? b=some o->s.heap.get? b=some o)->cH ρ h' vs d->(fill f vs).length=iR f->∃c,c.length=iR f/\cH ρ h' (fill f vs) c/\BindsTo s (rG w.params f) ⟨d,[]⟩ ((oE f).zip c)):
  ∃o e body,Ob (cfg w h) f o e body:=by
 unfold HP at a;simp only [cM]at a;obtain ⟨⟨⟨⟨q,j⟩,k,p⟩,⟨u,l⟩,t⟩,g,m⟩:=a;have F:=Sv u;exact⟨_,_,_,{at_:=Y _ _ (at_of q),data:=KY j,HJ:=HQ k,kind:=F.kind,co:=F.co,gen:=F.gen,glob:=F.glob,blt:=F.blt,Ri:=F.Ri,code:=(HR p).symm▸KX (λx=>Y _ _ (at_of l)) t,head:=g,TG:=m,bind:=n}⟩
noncomputable def HT:List Nat:=(List.range 60).filter λf=> !(f==18)
def binds(P:Params)(g:Nat->Value):(HT.map λf=>bindArgs (rG P f) ⟨(List.range (iR f)).map g,[]⟩)=HT.map λf=>pure ((oE f).zip ((List.range (iR f)).map g)):=by kernel_rfl
def HU(a:List Value):(List.range a.length).map (λi=>a.getD i .none)=a:=by
 refine List.ext_getElem (by simp) λi c b=> ?_;simp [List.getD,b]
section
variable{w:World}{h:Heap}
def Sw{c:Cfg}(Y:Y1 w.params c.b0):∀(s:Shared) (vs:List V) (j:List Value) (ρ:dM) (h:Heap),(∀b o,c.b0.get? b=some o->s.heap.get? b=some o)->cH ρ h vs j->(fill 18 vs).length=iR 18->∃f,f.length=iR 18/\cH ρ h (fill 18 vs) f/\BindsTo s (H.fdOf (H.cm 76 0) "Diags.__init__" 3 (H.r 268) (H.s "kindkeep.diags" 786) (H.r 274)) ⟨j,[]⟩ ((oE 18).zip f):=by
 intro s vs j ρ h l m d;have g:s.heap.get? 268=some (H.oT [H.s "" 931]):=l _ _ (Y _ _ (LJ (by decide) (by kernel_rfl) (by kernel_rfl)));have X:Frag.In [(268,H.oT [H.s "" 931])] s.heap:=λa o e=>by
  rw [List.lookup_cons]at e;split at e
  .rename_i q;rw [beq_iff_eq.mp q];cases e;exact g
  .cases e
 cases m with
 |nil=>cases d
 |cons a r=>cases r with
  |nil=>exact⟨[_,.str (Str.ofString "") 931],rfl,.cons a (.cons (.str 0 _) .nil),kp_binds X λS=>by kernel_rfl⟩
  |cons b r=>cases r with
   |nil=>exact⟨[_,_],rfl,.cons a (.cons b .nil),kp_binds X λS=>by kernel_rfl⟩
   |cons b r=>
    rw [fill,if_neg (by simp)]at d;have k:_=2:=d;simp at k
def Sx(P:Params):rG P 18=H.fdOf (H.cm 76 0) "Diags.__init__" 3 (H.r 268) (H.s "kindkeep.diags" 786) (H.r 274):=by kernel_rfl
def QO(Y:Y1 w.params h)(lim:h.NoLimit):LI (cfg w h):=⟨QK Y lim,λf a=>QN Y (j0 (fns _) a) (by
 cases e:(f==18)with
 |true=>
  cases beq_iff_eq.mp e;rw [Sx];exact Sw (c:=cfg w h) Y
 |false=>
  refine A6 (c:=cfg w h) e λb d=> ?_;have:=List.map_inj_left.mp (binds w.params λi=>b.getD i .none) f (List.mem_filter.mpr ⟨List.mem_range.mpr a,by rw [e];rfl⟩);rw [<-d,HU]at this;exact this)⟩
end
end
section
open PyProof.Rows PySem.W.Fast
namespace H
noncomputable abbrev q0:Program:=rw.row.prog
def g1:sreFenced q0.main=true:=by rw [te11788848310118352699];kernel_rfl
def g2:((moduleNames q0.main.body).isEmpty||lookedIntoSs (moduleNames q0.main.body) q0.main.body)=true:=by rw [te12862048085361865435];kernel_rfl
def g3:namesResolve q0=true:=by rw [te8377067652309620493];kernel_rfl
def g4:(q0.boundNames.all λn=> !worldNames.contains n)=true:=by kernel_rfl
def g5:readsOut q0 q0.main.body "vars"=false:=by rw [te13343964577679436407];kernel_rfl
def g6:readsOut q0 q0.main.body "dir"=false:=by rw [te13343964577679436407];kernel_rfl
def g7:readsOut q0 q0.main.body "locals"=false:=by rw [te13343964577679436407];kernel_rfl
def g8:noRoadLSs {strict:= !(importedModules q0.main.body).all cThrough.contains,foot:=none,bare:=[]} q0.main.body=true:=by rw [te8326940854005059898];kernel_rfl
def g9:(namesMeet q0 q0.main.body λa n=>attrL n)=true:=by rw [te17119622794617984870];kernel_rfl
def l1:looksOpen q0=true:=by
 have b:(["vars","dir","locals"]:List Str).filter (readsOut q0 q0.main.body)=[]:=by
  rw [List.filter_cons_of_neg (ne_true_of_eq_false g5),List.filter_cons_of_neg (ne_true_of_eq_false g6),List.filter_cons_of_neg (ne_true_of_eq_false g7)];rfl
 unfold looksOpen;rw [b];exact look_both (look_both (look_both (look_both (look_both g1 g2) g3) g4) g8) g9
def l2:rw.row.partSaid=true:=by
 unfold OpenRow.partSaid;refine look_both (look_both (look_both (look_both (look_both (look_both (look_both (look_both (look_both (look_both (look_both (look_both (look_both l1 ?_) ?_) ?_) ?_) ?_) ?_) ?_) ?_) ?_) ?_) ?_) ?_) ?_
 all_goals kernel_rfl
def l3:rw.row.wellSaid=true:=by
 unfold OpenRow.wellSaid;refine look_both (look_both l2 ?_) ?_
 all_goals kernel_rfl
def n1:rw.footing.all footLine=true:=by kernel_rfl
def n2:noClassBlock rw.prog rw.footing=true:=by kernel_rfl
def n3:noRoadLSs {strict:=true,foot:=some rw.bound',writes:=rw.writes,may:=rw.may} rw.footing=true:=by rw [te8326940854005059898];kernel_rfl
def n4:defStands rw.about rw.above=true:=by kernel_rfl
def n5:rw.namesIt=true:=by rw [te16286561074155671207];kernel_rfl
def n6:rw.bound'.all (λn=> !builtinNamed n||rw.about==[n]|| !rw.reads n)=true:=by rw [te6984425678791042302,te797321630700447069];kernel_rfl
def n7:namesMeet rw.prog rw.footing (λa n=>(!(["type","isinstance","issubclass","getattr","hasattr"]:List Str).contains n||a.names.lookup n==some .globalImplicit)&&
 (rw.may != some n||a.kind== .module||a.names.lookup n==some .globalImplicit))=true:=by rw [te17119622794617984870];kernel_rfl
def n8:namesMeet rw.prog rw.above (λa n=> !rw.own.contains n)=true:=by rw [te17119622794617984870,te10792542408131684335];kernel_rfl
def n9:(namesMeet rw.prog rw.footing λa n=>a.kind== .module||a.names.lookup n != some .globalExplicit)=true:=by rw [te17119622794617984870];kernel_rfl
def TR:rw.own.all (λn=> !builtinNamed n)=true:=by rw [te10792542408131684335];kernel_rfl
def TS:(rw.own.eraseDups.length==rw.own.length)=true:=by rw [te10792542408131684335];kernel_rfl
def TU:rw.own.contains rw.name=true:=by rw [te10792542408131684335];kernel_rfl
def said:rw.wellSaid=true:=by
 unfold OpenLaw.wellSaid;refine look_both (look_both (look_both (look_both (look_both (look_both (look_both (look_both (look_both (look_both (look_both (look_both (look_both (look_both (look_both (look_both (look_both (look_both l3 ?a2) n1) n2) ?a5) ?a6) n3) n4) n5) ?a10) n6) ?a12) ?a13) n7) TU) TS) TR) n8) n9
 all_goals kernel_rfl
def Bd(call:WalkO qv loose (λa a=>True) RB rw.row.toRowW vJ [] λf vs=>PySem.call f vs):rw.Holds:=⟨said,head l3 call⟩
end H
end
section
open PySem.Calls PyProof.Rows
def KZ{h:Heap}{a:Addr}{m m':Str->Option Value}(x:h.Ns a m)(y:h.Ns a m')(n:Str):m n=m' n:=by
 refine jx x λo es l g c e f=> ?_;refine jx y λo' k j g' b e d=> ?_;rw [g]at g';cases g';rw [c]at b;cases b;rw [<-f,<-d]
def HV{R:WRecords}:∀{b:List WData},WShape.hasItems R b .int=true->∃c:List Int,b=c.map .int:=by
 intro zl
 induction zl with
 |nil=>
  intro _;exact⟨[],rfl⟩
 |cons d b e=>
  intro h;have h:=Bool.and_eq_true_iff.mp h;refine ez (e h.2) λc a=> ?_;subst a;refine ez (hasW_int h.1) λi a=> ?_;subst a;exact⟨i::c,rfl⟩
def DW{P:Params}{h:Heap}{ρ:dM}:∀{b:List Int} {vs:List Value},WellAll P h vs (b.map .int)->cH ρ h (b.map V.int) vs:=by
 intro b
 induction b with
 |nil=>
  intro vs w;have w:WellAll P h vs []:=w;cases w;exact .nil
 |cons i b c=>
  intro vs w;have w:WellAll P h vs (.int i::b.map .int):=w
  cases w with
  |cons a r=>cases a with
   |int _ t=>exact .cons (.int i t) (c r)
def HW{args:List WData}(e:H.rw.row.toRowW.claim.pre args=true):∃a:List Int,args=[.list (a.map .int)]/\a.length<=63:=by
 refine cR (pre_splitW e) λl j=> ?_;refine aS (hasAllW_cons (es:=[]) l) λd r f h c=> ?_;subst f;have c:=hasAllW_nil c;subst c;refine aB (hasW_list h) λo b g=> ?_;subst b;refine ez (HV g) λa b=> ?_;subst b;refine⟨a,rfl,?_⟩;have m:WTm.holds [] (.and (.not (.lt (.lit (.int 63)) (.len (.arg 0)))) (.lit (.bool true))) {args:=[.list (a.map .int)]}=true:=j;apply Jh;intro n;have k:(63:Int)<(a.length:Int):=Int.ofNat_lt.mpr (bK n);simp [WTm.holds,WTm.value,less?,Num.less?,k]at m
def join(L:∀d:List Int,d.length<=63->aq 60 59 [.ref 0] [.iw (d.map V.int)] λv f=>v= .bool true):H.rw.Holds:=by
 refine H.Bd λw c b mg mb G Y a o pm cd a9 dV kV I ho b1 a7 E N args aZ as t a0 hr g a4=> ?_;refine aB (HW t) λd zq1 bW=> ?_;subst zq1;have A:=QO (w:=w) (h:=b.heap) Y G.T.nolimit;have ea:a=pN 59:=by
  have U:=A.T.gf 59 (by decide) rfl;have k:=KZ G.T.g A.T.Qh (Str.ofString "law");have h3:mg (Str.ofString "law")=some (.ref a):=E;rw [h3]at k;have Q:(cfg w b.heap).mg (Str.ofString "law")=some (.ref (pN 59)):=U;rw [Q]at k;cases k;rfl
 subst ea;refine aS (wellAll_cons_inv g) λv b0 y hw m=> ?_;subst y;cases m
 cases hw with
 | @list x vs _ hx J=>
  have own:Own (cfg w b.heap) [(x,x)] [.iw (d.map V.int)] b.heap:={
   len:=rfl
   rep:=λi ob p e q=>by
    cases i with
    |zero=>simp at e q;subst e q;exact⟨rfl,by simp only [bN,big];exact zt bW (zr 999937),vs.toArray,_,hx,by simpa using DW J⟩
    |succ i=>simp at e
   Nm:=λi j p q e1 e2 z=>by
    cases i with
    |zero=>cases j with
     |zero=>exact absurd rfl z
     |succ j=>simp at e2
    |succ i=>simp at e1
   base:=λi ob p e q n=>by
    cases i with
    |zero=>simp at e;subst e;cases n
    |succ i=>simp at e
   keep:=λf f e=>e}
  have l:=A5 A 60 59 [.ref 0] [.iw (d.map V.int)] (λv f=>v= .bool true) callerA [(x,x)] b [.ref x]
   (λr u=>match r with | .ok (.ret v)=>GoodWG H.rw.row.toRowW.claim (classAt c.heap) (ExcName.means c.heap) [.list (d.map .int)] b (.ok (.ret v)) u | .ok _=>False | .error e=>GoodWG H.rw.row.toRowW.claim (classAt c.heap) (ExcName.means c.heap) [.list (d.map .int)] b (.error e) u)
   (L d bW) ⟨rfl,by decide,by decide⟩ own (.cons (.ref 0 (x,x) rfl) .nil) (λv a8 a6 h' tk wv hv hp D C=>by
    subst hv;cases C;refine⟨.inl ⟨.bool true,.bool true,[],rfl,λcls=>rfl,.bool true,?_,λf=>⟨yU,λa I=>by cases I⟩⟩,.of_keep D.keep,rfl,.of_eq N⟩;generalize (WData.list (d.map .int))=q
    kernel_rfl)
  exact wpAny_call l
end
def oM(K:KV):KS:=λfl a st=>match fl with
 | .ret v=>K v st
 | .next=>K .none st
 |_=>False
def ay{K:KV}{v:V}{m:Loc}{st:St}:oM K (.ret v) m st=K v st:=rfl
def qd{K:KV}{m:Loc}{st:St}:oM K .next m st=K .none st:=rfl
def call_in{d f:Nat}{vs:List V}{st:St}{K:KV}(a:IB)(m:Loc)(h:vB (aq d) a m st (oM K))(c:f<60)(e:(fill f vs).length=iR f)(hi:Cu f=a)(b:rW f (fill f vs)=m):aq (d+1) f vs st K:=by
 subst hi b;exact⟨⟨c,e⟩,h⟩
def rj(C:aR)(r:IB)(K:KS):KS:=λfl m st=>match fl with
 | .next=>vB C r m st K
 |fl=>K fl m st
def ah{C:aR}{s:IS}{r:IB}{m:Loc}{st:St}{K:KS}:vB C (.c s r) m st K=vS C s m st (rj C r K):=rfl
def aa{C:aR}{r:IB}{K:KS}{m:Loc}{st:St}:rj C r K .next m st=vB C r m st K:=rfl
def ao{C:aR}{r:IB}{K:KS}{m:Loc}{st:St}{v:V}:rj C r K (.ret v) m st=K (.ret v) m st:=rfl
def Oq{C:aR}{r:IB}{K:KS}{m:Loc}{st:St}:rj C r K .cont m st=K .cont m st:=rfl
def au{C:aR}{m:Loc}{st:St}{K:KS}:vB C .z m st K=K .next m st:=rfl
def O5(x y:Nat)(st:St)(K:KV):j5 .eq (.ref x) (.ref y) st K=two st x y λxs ys=>D7 (kq (vEq 4) xs ys) λb=>K (.bool b) st:=rfl
def O6(x y:Nat)(st:St)(K:KV):j5 .ne (.ref x) (.ref y) st K=two st x y λxs ys=>D7 (kq (vEq 4) xs ys) λb=>K (.bool (!b)) st:=rfl
def TV(l l':List V)(st:St)(K:KV):j5 .eq (.tup l) (.tup l') st K=D7 (vEq 4 (.tup l) (.tup l')) λb=>K (.bool b) st:=rfl
def rI{C:aR}{s:IS}{r:IB}{m:Loc}{st:St}{K:KS}(h:vS C s m st (rj C r K)):vB C (.c s r) m st K:=h
def iH{C:aR}{s:IS}{r:IB}{m:Loc}{st:St}{K:KS}(h:vS C s m st (rj C r K)):rj C (.c s r) K .next m st:=h
def O7{C:aR}{m:Loc}{st:St}{K:KS}(h:K .next m st):rj C .z K .next m st:=h
section
variable{C:aR}{m:Loc}{st:St}{K:KS}{t f r:IB}
def bz{KB:Bool->St->Prop}{b:Bool}:tr KB (.bool b) st=KB b st:=rfl
def aV{c:IE}(b:Bool)(d:∀a:KV,a (.bool b) st->vE C c m st a)(h:vB C (if b=true then t else f) m st K):vS C (.ite c t f) m st K:=by
 dsimp only [j6];refine d _ ?_;dsimp only [bz];cases b
 .rw [if_neg (by decide)]at h;exact h
 .rw [if_pos rfl]at h;exact h
def fU{op:Be}{i:Nat}{x n:Int}{b:Bool}(c:m[i]? =some (some (.int x)))(hb:b_ op x n=b){a:KV}(h:a (.bool b) st):vE C (.cmp op (.l i) (.n n)) m st a:=by
 simp only [bq,bV,d_,c];cases op<;>simp only [cv,hb]<;>exact h
def Bf{i:Nat}{x n:Int}(b:m[i]? =some (some (.int x)))(a:x≠n)(h:vB C r m st K):vB C (.c (.i (.q i n) t) r) m st K:=by
 dsimp only [ah];refine aV false (λc h'=>fU b (by simp [b_,a]) h') ?_;rw [if_neg (by decide),au];exact h
def qe{i:Nat}{x n:Int}(a:m[i]? =some (some (.int x)))(d:(x==n)=false)(h:vB C r m st K):vB C (.c (.i (.q i n) t) r) m st K:=Bf a (ne_of_beq_false d) h
def Cv{i:Nat}{x n p:Int}{u:IB}(a:m[i]? =some (some (.int x)))(d:(x==n||x==p)=false)(h:vB C r m st K):vB C (.k (.i (.q i n) t) (.i (.q i p) u) r) m st K:=qe a (Bool.or_eq_false_iff.mp d).1 (qe a (Bool.or_eq_false_iff.mp d).2 h)
def zO{i:Nat}{x n p q s:Int}{u v w:IB}(a:m[i]? =some (some (.int x)))(d:((x==n||x==p)||(x==q||x==s))=false)(h:vB C r m st K):vB C (.q (.i (.q i n) t) (.i (.q i p) u) (.i (.q i q) v) (.i (.q i s) w) r) m st K:=Cv a (Bool.or_eq_false_iff.mp d).1 (Cv a (Bool.or_eq_false_iff.mp d).2 h)
def cj{i:Nat}{x:Int}(a:m[i]? =some (some (.int x)))(h:vB C t m st (rj C r K)):vB C (.c (.ite (.q i x) t f) r) m st K:=by
 dsimp only [ah];refine aV true (λb h'=>fU a (by simp [b_]) h') ?_;rw [if_pos rfl];exact h
def K6{i:Nat}{x a b:Int}(c:m[i]? =some (some (.int x))){d:KV}(h:d (.bool (x==a||x==b)) st):vE C (.qP (.d (.q i a) (.q i b))) m st d:=by
 dsimp only [xZ,uJ];refine fU c rfl ?_;dsimp only [bY,b_];cases e:(x==a)
 .rw [e]at h;dsimp only [x9];exact fU c rfl h
 .rw [e]at h;exact h
def cI{i:Nat}{x a b:Int}(c:m[i]? =some (some (.int x)))(e:(x==a||x==b)=false)(h:vB C r m st K):vB C (.c (.i (.qP (.d (.q i a) (.q i b))) t) r) m st K:=by
 dsimp only [ah];refine aV false (λd h'=>K6 c (by rw [e];exact h')) ?_;rw [if_neg (by decide),au];exact h
def mu{i:Nat}{x a b:Int}(c:m[i]? =some (some (.int x)))(e:(x==a||x==b)=true)(h:vB C t m st (rj C r K)):vB C (.c (.ite (.qP (.d (.q i a) (.q i b))) t f) r) m st K:=by
 dsimp only [ah];refine aV true (λd h'=>K6 c (by rw [e];exact h')) ?_;rw [if_pos rfl];exact h
end
mutual
inductive T where |mk (a:Nat) (at_ kind flags sort:Int) (ai:TL)
inductive TL where |z |no (r:TL) |c (t:T) (r:TL)
end
noncomputable abbrev TL.e a:=TL.c a .z
noncomputable abbrev TL.d a b:=TL.c a (.c b .z)
noncomputable abbrev TL.f a b c:=TL.c a (.c b (.c c .z))
noncomputable abbrev TL.r a b c d:=TL.c a (.c b (.c c (.c d .z)))
noncomputable abbrev TL.k a b r:=TL.c a (.c b r)
noncomputable abbrev TL.j a b c r:=TL.c a (.c b (.c c r))
noncomputable abbrev TL.q a b c d r:=TL.c a (.c b (.c c (.c d r)))
noncomputable def T.a:T->Nat | .mk a _ _ _ _ _=>a
noncomputable def T.at_:T->Int | .mk _ a _ _ _ _=>a
noncomputable def T.kind:T->Int | .mk _ _ k _ _ _=>k
noncomputable def T.flags:T->Int | .mk _ _ _ f _ _=>f
noncomputable def T.ai:T->TL | .mk _ _ _ _ _ k=>k
def TL.aZ:TL->List V | .z=>[] | .no r=> .none::r.aZ | .c t r=> .ref t.a::r.aZ
def TL.jc:TL.z.aZ=[]:=rfl
def TL.ku(r:TL):r.no.aZ=V.none::r.aZ:=rfl
def TL.iz(t:T)(r:TL):(TL.c t r).aZ=V.ref t.a::r.aZ:=rfl
mutual
noncomputable def T.ids:T->List Nat | .mk a _ _ _ _ k=>a::k.ids
noncomputable def TL.ids:TL->List Nat | .z=>[] | .no r=>r.ids | .c t r=>t.ids++r.ids
end
def T.aU(a:Nat)(at_ kind flags sort:Int)(ai:TL):(T.mk a at_ kind flags sort ai).ids=a::ai.ids:=rfl
def TL.aU:TL.z.ids=[]:=rfl
def TL.cX(r:TL):r.no.ids=r.ids:=rfl
def TL.cG(t:T)(r:TL):(TL.c t r).ids=t.ids++r.ids:=rfl
noncomputable abbrev gF(kind:Int)(w:V)(q:Nat)(flags at_ a:Int):O:= .inst 0 [(1,.int kind),(2,w),(3,.ref q),(4,.int flags),(5,.int at_),(6,.int a)]
mutual
def Rep(lo hi:Nat)(ν:Nat->Int)(st:St):T->Prop
 | .mk a at_ kind flags _ ai=>(lo<=a/\a<hi)/\(∃w q,(lo<=q/\q<hi)/\st[a]? =some (gF kind w q flags at_ (ν a))/\st[q]? =some (.list ai.aZ))/\cQ lo hi ν st ai
def cQ(lo hi:Nat)(ν:Nat->Int)(st:St):TL->Prop
 | .z=>True
 | .no r=>cQ lo hi ν st r
 | .c t r=>Rep lo hi ν st t/\cQ lo hi ν st r
end
noncomputable def uK:O->Bool
 | .list (_:: .int _::_)=>true
 |_=>false
structure aC (M:Nat->Prop) (st st':St):Prop where
 len:st.length<=st'.length
 keep:∀a o,¬M a->st[a]? =some o->uK o=false->st'[a]? =some o
def aC.refl{M:Nat->Prop}(st:St):aC M st st:=⟨bP _,λa a a e a=>e⟩
def aC.trans{M:Nat->Prop}{a b c:St}(x:aC M a b)(y:aC M b c):aC M a c:=⟨iA x.len y.len,λi o n e h=>y.keep i o n (x.keep i o n e h) h⟩
def aC.mono{M c:Nat->Prop}{a b:St}(x:aC M a b)(h:∀i,M i->c i):aC c a b:=⟨x.len,λi o n e k=>x.keep i o (λz=>n (h i z)) e k⟩
def iS:∀k:TL,uK (.list k.aZ)=false
 | .z=>rfl
 | .no .z=>rfl
 | .no (.no _)=>rfl
 | .no (.c _ _)=>rfl
 | .c _ .z=>rfl
 | .c _ (.no _)=>rfl
 | .c _ (.c _ _)=>rfl
section
variable{lo hi lo' hi':Nat}{ν:Nat->Int}{st st':St}{M:Nat->Prop}
mutual
theorem Rep.keep(h:aC M st st')(b:∀i,lo<=i->i<hi-> ¬M i):∀{t:T},Rep lo hi ν st t->Rep lo hi ν st' t
 | .mk a _ _ _ _ ai,⟨hb,⟨w,q,c,e1,e2⟩,r⟩=>⟨hb,⟨w,q,c,h.keep _ _ (b _ hb.1 hb.2) e1 rfl,h.keep _ _ (b _ c.1 c.2) e2 (iS _)⟩,cQ.keep h b r⟩
theorem cQ.keep(h:aC M st st')(a:∀i,lo<=i->i<hi-> ¬M i):∀{k:TL},cQ lo hi ν st k->cQ lo hi ν st' k
 | .z,_=>trivial
 | .no r,x=>cQ.keep (k:=r) h a x
 | .c t r,x=>⟨Rep.keep h a x.1,cQ.keep h a x.2⟩
end
mutual
theorem Rep.wide(c:lo'<=lo)(b:hi<=hi'):∀{t:T},Rep lo hi ν st t->Rep lo' hi' ν st t
 | .mk a _ _ _ _ ai,⟨hb,⟨w,q,e,e1,e2⟩,r⟩=>⟨⟨(zt c hb.1),(zt hb.2 b)⟩,⟨w,q,⟨(zt c e.1),(zt e.2 b)⟩,e1,e2⟩,cQ.wide c b r⟩
theorem cQ.wide(a:lo'<=lo)(b:hi<=hi'):∀{k:TL},cQ lo hi ν st k->cQ lo' hi' ν st k
 | .z,_=>trivial
 | .no r,x=>cQ.wide (k:=r) a b x
 | .c t r,x=>⟨Rep.wide a b x.1,cQ.wide a b x.2⟩
end
mutual
theorem Rep.bd:∀{t:T},Rep lo hi ν st t->∀x ∈ t.ids,lo<=x/\x<hi
 | .mk a _ _ _ _ ai,⟨hb,_,r⟩=>λx b=>by
  rw [T.aU]at b;refine a_ (List.mem_cons.mp b) (λc=> ?_) λb=> ?_
  any_goals subst c
  .exact hb
  .exact cQ.bd r x b
theorem cQ.bd:∀{k:TL},cQ lo hi ν st k->∀x ∈ k.ids,lo<=x/\x<hi
 | .z,_=>λx a=>by rw [TL.aU]at a;cases a
 | .no r,h=>λx a=>by rw [TL.cX]at a;exact cQ.bd (k:=r) h x a
 | .c t r,h=>λx a=>by
  rw [TL.cG]at a;refine a_ (List.mem_append.mp a) (λa=> ?_) λa=> ?_
  .exact Rep.bd h.1 x a
  .exact cQ.bd h.2 x a
end
end
structure Mk where
 h:Nat
 a:Nat
 at_:Int
 sort:Int
 w0:Bool
 w1:Bool
 w2:Bool
 row:Bool
noncomputable abbrev vK(m:Mk):O:= .list [.ref m.a,.int m.sort,.bool m.w0,.bool m.w1,.bool m.w2,.bool m.row]
structure Lay where
 p:Nat
 k:Nat
 b:Nat
abbrev M0(L:Lay)(i:Nat):Prop:=i=L.p\/i=L.k\/i=L.b
def O8{L:Lay}{i:Nat}(h:L.b<i)(o:L.p<L.b/\L.k<L.b/\L.p≠L.k): ¬M0 L i:=λz=>z.elim (zg (zt o.1 (zs h))) λz=>z.elim (zg (zt o.2.1 (zs h))) (zg h)
structure dI (L:Lay) (aL:Int) (ms:List Mk) (st:St):Prop where
 pile:∃xs:List Int,st[L.p]? =some (.list (xs.map V.int))
 vM:st[L.b]? =some (.dict [(5,.int aL),(87,.ref L.k)])
 marks:st[L.k]? =some (.list (ms.map λm=> .ref m.h))
 hits:∀m ∈ ms,L.b<m.h/\st[m.h]? =some (vK m)
 nd:ms.Pairwise λa b=>a.h<b.h
 Cw:(ms.Pairwise λa b=>a.at_<b.at_)/\∀m ∈ ms,m.at_<=aL
 ord:L.p<L.b/\L.k<L.b/\L.p≠L.k
def aJ{st:St}{a:Nat}{o:O}(h:st[a]? =some o):a<st.length:=by
 refine a_ (oO a st.length) (λq=> ?_) λq=> ?_
 .exact q
 .rw [zT q]at h;cases h
def bQ{st l:St}{a:Nat}{o:O}(h:st[a]? =some o):(st++l)[a]? =some o:=by rw [uw (aJ h)];exact h
def aD{st:St}{o:O}:(st++ [o])[st.length]? =some o:=by simp
def bh{st:St}{a:Nat}{o x:O}(h:st[a]? =some o):(st.set a x)[a]? =some x:=vN (aJ h)
def aT{st:St}{a b:Nat}{o x:O}(n:b≠a)(h:st[a]? =some o):(st.set b x)[a]? =some o:=by rw [j7 n];exact h
def aC.app{M:Nat->Prop}(st:St)(l:St):aC M st (st++l):=⟨al,λa a a e a=>bQ e⟩
def aC.set{M:Nat->Prop}{st:St}{a:Nat}{o:O}(h:M a):aC M st (st.set a o):=⟨by simp,λi x n e b=>aT (λz=>n (z▸h)) e⟩
def dI.app{L:Lay}{aL:Int}{ms:List Mk}{st:St}(B:dI L aL ms st)(l:St):dI L aL ms (st++l):=
 ⟨B.pile.imp λxs e=>bQ e,bQ B.vM,bQ B.marks,λm a=>⟨(B.hits m a).1,bQ (B.hits m a).2⟩,B.nd,B.Cw,B.ord⟩
def dI.other{L:Lay}{aL:Int}{ms:List Mk}{st:St}(B:dI L aL ms st){a:Nat}{o x:O}(c: ¬M0 L a)(f:st[a]? =some o)(g:uK o=false):dI L aL ms (st.set a x):=
 ⟨B.pile.imp λxs e=>aT (λz=>c (.inl z)) e,aT (λz=>c (.inr (.inr z))) B.vM,aT (λz=>c (.inr (.inl z))) B.marks,
  λm b=>⟨(B.hits m b).1,aT (λz=>by rw [z,(B.hits m b).2]at f;cases f;cases g) (B.hits m b).2⟩,B.nd,B.Cw,B.ord⟩
section
variable{d:Nat}{st:St}{K:KV}{L:Lay}{aL:Int}{ms:List Mk}
def fH{n:Int}(B:dI L aL ms st)(c:0<n)(h:∀v st',0<=v->v<n->dI L aL ms st'->aC (M0 L) st st'->st'.length=st.length->K (.int v) st'):aq (d+1) 39 [.ref L.p,.int n] st K:=by
 refine ez B.pile λxs b=> ?_;refine call_in H9 [some (.ref L.p),some (.int n)] ?_ (by decide) rfl rfl rfl;have fin:∀v ys,0<=v->v<n->K (.int v) (st.set L.p (.list (List.map V.int ys))):=λv ys l g=>by
  refine h v _ l g ⟨⟨ys,bh b⟩,aT (by have:=B.ord;exact zl this.1) B.vM,aT B.ord.2.2 B.marks,λm f=>⟨(B.hits m f).1,aT (by have j:=B.ord;have o:=(B.hits m f).1;exact zl (zt j.1 (zs o))) (B.hits m f).2⟩,B.nd,B.Cw,B.ord⟩ (aC.set (.inl rfl)) vO
 rcases List.eq_nil_or_concat xs with rfl |⟨ys,y,rfl⟩
 .simp only [H9,ah,fZ,j6,bq,bV,jh,d_,bM,b,tr,cv,b_,bY,qg,cY];have e:st.set L.p (.list (List.map V.int []))=st:=by
   apply List.ext_getElem?;intro i;by_cases hi:L.p=i
   .subst hi;rw [bh b,b]
   .rw [j7 hi]
  have:=fin 0 [] (Int.not_lt.mp λa=>dJ (fP 0) (AI jb ck) jb a rfl) (Int.not_le.mp λa=>dJ (fP _) (AI (AI jb ck) bH) (AI bH jb) (bE c a) rfl);rw [e]at this;exact this
 .have e1:((↑(List.map V.int (ys.concat y)).length:Int)==0)=false:=by simp;exact ux (Int.not_le.mp λa=>dJ (fP _) (AI (AI bH ck) jb) (AI jb bH) (bE a (iT _)) rfl)
  have e2:(List.map V.int (ys.concat y)).getLast? =some (.int y):=by simp
  have k:(List.map V.int (ys.concat y)).dropLast=List.map V.int ys:=by simp
  simp only [H9,ah,au,fZ,j6,bq,bV,D8,jh,j8,d_,bM,b,tr,cv,b_,bY,e1,aa,e2,k,cF,D9];exact⟨c,fin _ _ (Int.emod_nonneg _ (ux (Int.not_le.mp λa=>dJ (fP _) (AI (AI jb ck) bH) (AI bH jb) (bE c a) rfl))) (Int.emod_lt_of_pos _ c)⟩
end
def rJ{st:St}{x y:O}:(st++ [x]).set st.length y=st++ [y]:=by
 rw [Bg _ _ (bP _),rX];rfl
def O9(f:Nat):fj 0 f=none:=rfl
section
variable{d:Nat}{st:St}{K:KV}{L:Lay}{aL:Int}{ms:List Mk}
def iJ{C:aR}{m:Loc}{e:IE}{f k:Nat}{a:List (Nat×V)}{v:V}{K:KS}(g:∀b:KV,b v (st++ [.inst k a])->vE C e m (st++ [.inst k a]) b)(l:m[0]? =some (some (.ref st.length)))(c:fj k f=none)(j:a.length<500)(h:K .next m (st++ [.inst k (putL f v a)])):vS C (.x 0 f e) m (st++ [.inst k a]) K:=by
 refine g _ ?_;simp only [bq,l,aD,rJ];exact⟨⟨c,j⟩,h⟩
def oQ{C:aR}{m:Loc}{i:Nat}{v:V}(b:m[i]? =some (some v))(a:KV)(h:a v st):vE C (.l i) m st a:=by
 rw [bq,b];exact h
def H_{k w q fl at_:V}(h:K .none (st++ [.inst 0 [(1,k),(2,w),(3,q),(4,fl),(5,at_),(6,.int 0)]])):aq (d+1) 0 [.ref st.length,k,w,q,fl,at_] (st++ [.inst 0 []]) K:=by
 refine call_in SQ [some (.ref st.length),some k,some w,some q,some fl,some at_] ?_ (by decide) rfl rfl rfl;refine rI (iJ (oQ rfl) rfl rfl (bI rfl) (iH (iJ (oQ rfl) rfl rfl (bI rfl) (iH (iJ (oQ rfl) rfl rfl (bI rfl) ?_)))));exact iH (iJ (oQ rfl) rfl rfl (bI rfl) (iH (iJ (oQ rfl) rfl rfl (bI rfl) (iH (iJ (λa h=>h) rfl rfl (bI rfl) h)))))
def zU{k w q fl at_:V}(h:K (.ref st.length) (st++ [.inst 0 [(1,k),(2,w),(3,q),(4,fl),(5,at_),(6,.int 0)]])):aq (d+2) 1 [k,w,q,fl,at_] st K:=by
 refine call_in SR [some k,some w,some q,some fl,some at_] ?_ (by decide) rfl rfl rfl;exact H_ (K:=λv st'=>v= .none/\K (.ref st.length) st') ⟨rfl,h⟩
end
noncomputable abbrev zn:Nat->Int:=λa=>0
section
variable{d:Nat}{st:St}{K:KV}{L:Lay}{aL:Int}{ms:List Mk}
def dI.bump(B:dI L aL ms st):dI L (aL+1) ms (st.set L.b (.dict [(5,.int (aL+1)),(87,.ref L.k)])):=
 have o:=B.ord
 ⟨B.pile.imp λxs e=>aT (zg o.1) e,bh B.vM,aT (zg o.2.1) B.marks,λm a=>⟨(B.hits m a).1,aT (by have:=(B.hits m a).1;exact zl this) (B.hits m a).2⟩,B.nd,
  ⟨B.Cw.1,λm a=>by have:=B.Cw.2 m a;exact Int.not_lt.mp λb=>dJ (xU _ _) (AI bH (AI (AI jr ck) ck)) (AI jr bH) (bE this b) rfl⟩,B.ord⟩
def UG{a b:V}:List.lookup 5 [(5,a),(87,b)]=some a:=rfl
def EG{a b:V}:List.lookup 87 [(5,a),(87,b)]=some b:=rfl
def Im{C:aR}{m:Loc}{i n b:Nat}{k c:Int}{es:List (Nat×V)}{K:KS}(e:m[i]? =some (some (.ref b)))(hb:st[b]? =some (.dict es))(g:es.lookup n=some (.int c))(a:n<NS)(f:es.length<500)(h:K .next m (st.set b (.dict (putL n (.int (c+k)) es)))):
  vS C (.sN (.l i) (.s n) (.bin .add (.sub (.l i) (.s n)) (.n k))) m st K:=by
 simp only [Pf,j8,jH,bq,bV,e,hb,g,bv_add];exact⟨a,⟨f,a⟩,h⟩
def Bx{C:aR}{m:Loc}{i n b:Nat}{v:V}{es:List (Nat×V)}{K:KV}(a:m[i]? =some (some (.ref b)))(hb:st[b]? =some (.dict es))(c:es.lookup n=some v)(e:n<NS)(h:K v st):vE C (.sub (.l i) (.s n)) m st K:=by
 simp only [jH,bq,bV,a,hb,c];exact⟨e,h⟩
def Io{C:aR}{m:Loc}{i:Nat}{v:V}{r:IL}{K:List V->St->Prop}(a:m[i]? =some (some v))(h:vL C r m st λvs st=>K (v::vs) st):vL C (.c (.l i) r) m st K:=by
 rw [aW,bq,a];exact h
def EH{C:aR}{m:Loc}{i f:Nat}{a:IL}{K:KS}(h:vL C a m st λvs st=>C f vs st λv st=>K .next (m.set i (some v)) st):vS C (.a i (.call f a)) m st K:=h
def Pg{C:aR}{m:Loc}{e:IE}{K:KS}(h:vE C e m st λb st=>K .next m st):vS C (.ex e) m st K:=h
def RS{C:aR}{m:Loc}{e:IE}{r:IL}{K:List V->St->Prop}(h:vE C e m st λv st=>vL C r m st λvs st=>K (v::vs) st):vL C (.c e r) m st K:=h
def Ip{C:aR}{m:Loc}{i n a b:Nat}{e:IL}{es:List (Nat×V)}{xs:List V}{K:KV}(f:m[i]? =some (some (.ref b)))(hb:st[b]? =some (.dict es))(g:es.lookup n=some (.ref a))(k:n<NS)(j:st[a]? =some (.list xs))
  (h:vL C e m st λvs c=>vs.length<=big/\match ((c++ [.list vs]:St)[a]? :Option O)with
   |some (.list xs)=>xs.length<big/\K .none ((c++ [O.list vs]:St).set a (.list (xs++ [.ref c.length])))
   |_=>False):vE C (.append (.sub (.l i) (.s n)) (.list e)) m st K:=by
 refine Bx f hb g k ?_;simp only [j];exact h
def iK{lo q:Nat}{kind flags sort:Int}{w:V}{ai:TL}(B:dI L aL ms st)(u:L.b<lo)(A:lo<=q)(eq:st[q]? =some (.list ai.aZ))(J:cQ lo st.length zn st ai)(hs:0<=sort)(I:ms.length<900000)
  (h:∀g a hh,st.length<=a->aC (M0 L) st g->dI L (aL+1) (ms++(if sort=0 then []else [⟨hh,a,aL+1,sort,true,true,true,sort==1⟩])) g->Rep lo g.length zn g (.mk a (aL+1) kind flags sort ai)->K (.ref a) g):
  aq (d+3) 40 [.ref L.b,.int kind,w,.ref q,.int flags,.int sort] st K:=by
 refine call_in Ph [some (.ref L.b),some (.int kind),some w,some (.ref q),some (.int flags),some (.int sort),none] ?_ (by decide) rfl rfl rfl;have o:=B.ord;have k:=aJ B.vM;obtain ⟨p,l⟩:∃p,p=st.set L.b (.dict [(5,.int (aL+1)),(87,.ref L.k)]):=⟨_,rfl⟩;have E:=B.bump;rw [<-l]at E;have M:aC (M0 L) st p:=l▸aC.set (.inr (.inr rfl));have l1:p.length=st.length:=by rw [l];exact vO
 refine rI (Im rfl B.vM rfl (by decide) (bI rfl) ?_);change rj _ _ _ _ _ (st.set L.b (.dict [(5,.int (aL+1)),(87,.ref L.k)]));rw [<-l];refine iH (EH (Io rfl ?_));refine Io rfl ?_;refine Io rfl ?_;refine Io rfl ?_;refine RS (Bx rfl E.vM rfl (by decide) ?_);refine zU ?_;obtain ⟨c,j⟩:∃c,c=p++ [gF kind w q flags (aL+1) 0]:=⟨_,rfl⟩;rw [<-j];have f:=j▸E.app _;have t:=M.trans (j▸aC.app _ _);have l2:c.length=st.length+1:=by rw [j];simp [l1]
 have e2:c[st.length]? =some (gF kind w q flags (aL+1) 0):=by rw [j,<-l1];exact aD
 have v:=aJ eq;have nm:∀i,lo<=i->i<st.length-> ¬M0 L i:=λi hi z=>O8 (zt u hi) o;have H:Rep lo c.length zn c (.mk st.length (aL+1) kind flags sort ai):=
  ⟨⟨(zt A (zs v)),(zf l2)⟩,⟨w,q,⟨A,(zt v (zs (zf l2)))⟩,e2,t.keep _ _ (nm q A v) eq (iS _)⟩,(J.keep t nm).wide (bP _) (zs (zf l2))⟩
 rw [l1];refine iH (aV (decide (sort>0)) (λK' h'=>fU rfl rfl h') ?_);by_cases C:sort=0
 .subst C;exact h c st.length 0 (bP _) t (by simpa using f) H
 .have U:=Int.lt_iff_le_and_ne.mpr ⟨hs,Ne.symm C⟩;rw [if_pos (decide_eq_true U)];refine rI (Pg (Ip rfl f.vM rfl (by decide) f.marks ?_));refine And.intro (bI rfl) ?_;simp only [bQ f.marks];refine⟨by simp only [big,bN];exact zt I (zr 100000),?_⟩;obtain ⟨m,n⟩:∃m:Mk,m=⟨c.length,st.length,aL+1,sort,true,true,true,sort==1⟩:=⟨_,rfl⟩;have ek:=(zg (zt o.2.1 (zs k)));refine h _ st.length c.length (bP _) (t.trans ((aC.app _ _).trans (aC.set (.inr (.inl rfl))))) ?_ ?_
  .rw [if_neg C,<-n];have Y:∀m' ∈ ms,m'.h<c.length:=λm' b=>aJ (f.hits m' b).2;refine⟨let ⟨xs,e⟩:=f.pile;⟨xs,aT (Ne.symm o.2.2) (bQ e)⟩,aT (zl o.2.1) (bQ f.vM),?_,?_,?_,?_,B.ord⟩
   .rw [bh (bQ f.marks)];simp [n]
   .intro m' b;rcases List.mem_append.mp b with b |b
    .exact⟨(f.hits m' b).1,aT (by have:=(f.hits m' b).1;exact zl (zt o.2.1 (zs this))) (bQ (f.hits m' b).2)⟩
    .rw [List.mem_singleton.mp b,n];exact⟨by show L.b<c.length;exact zt k (zs (zf l2)),aT (by show L.k≠c.length;exact zl (zt (zt o.2.1 (zs k)) (zs (zf l2)))) aD⟩
   .rw [CK];refine⟨f.nd,List.pairwise_singleton _ _,λx G y D=> ?_⟩;rw [List.mem_singleton.mp D,n];exact Y x G
   .refine⟨?_,λm' b=> ?_⟩
    .rw [CK];refine⟨f.Cw.1,List.pairwise_singleton _ _,λx G y D=> ?_⟩;rw [List.mem_singleton.mp D,n];have:=B.Cw.2 x G;show x.at_<aL+1;exact Int.not_le.mp λz=>dJ (xU _ _) (AI bH (AI jr ck)) (AI jr bH) (bE this z) rfl
    .rcases List.mem_append.mp b with b |b
     .exact f.Cw.2 m' b
     .rw [List.mem_singleton.mp b,n];exact Int.le_refl _
  .have Q:aC (M0 L) c ((c++ [O.list [V.ref st.length,V.int sort,V.bool true,V.bool true,V.bool true,V.bool (sort==1)]]).set L.k (O.list (List.map (λm=>V.ref m.h) ms++ [V.ref c.length]))):=(aC.app _ _).trans (aC.set (.inr (.inl rfl)));exact(H.keep Q λi N z=>O8 (zt u N) o).wide (bP _) (by simp)
end
section
variable{d:Nat}{st:St}{K:KV}{L:Lay}{aL:Int}{ms:List Mk}
def eB{lo:Nat}{w:V}(B:dI L aL ms st)(c:L.b<lo)(g:lo<=st.length)(f:ms.length<900000)
  (h:∀b a,st.length<=a->aC (M0 L) st b->dI L (aL+1) ms b->Rep lo b.length zn b (.mk a (aL+1) 8 0 0 .z)->K (.ref a) b):aq (d+4) 41 [.ref L.b,w] st K:=by
 refine call_in MB [some (.ref L.b),some w] ?_ (by decide) rfl rfl rfl;simp [MB,ah,fZ,bq,bV,iU,cJ,fQ,cy,aW,EW,ao,ay,big];exact iK (ai:= .z) (B.app _) c g aD trivial (by decide) f λb a hh e j l k=>h b a (by simp at e;exact zs e) ((aC.app _ _).trans j) (by simpa using l) k
def kO{lo q:Nat}{ai:TL}(B:dI L aL ms st)(c:L.b<lo)(g:lo<=q)(eq:st[q]? =some (.list ai.aZ))(f:cQ lo st.length zn st ai)(e:ms.length<900000)
  (h:∀b a,st.length<=a->aC (M0 L) st b->dI L (aL+1) ms b->Rep lo b.length zn b (.mk a (aL+1) 71 0 0 ai)->K (.ref a) b):aq (d+4) 42 [.ref L.b,.ref q] st K:=by
 refine call_in PF [some (.ref L.b),some (.ref q)] ?_ (by decide) rfl rfl rfl;exact iK B c g eq f (by decide) e λb a hh l j m k=>h b a l j (by simpa using m) k
def yG{lo q:Nat}{ai:TL}(B:dI L aL ms st)(c:L.b<lo)(g:lo<=q)(eq:st[q]? =some (.list ai.aZ))(f:cQ lo st.length zn st ai)(e:ms.length<900000)
  (h:∀b a,st.length<=a->aC (M0 L) st b->dI L (aL+1) ms b->Rep lo b.length zn b (.mk a (aL+1) 59 0 0 ai)->K (.ref a) b):aq (d+4) 43 [.ref L.b,.ref q] st K:=by
 refine call_in PG [some (.ref L.b),some (.ref q)] ?_ (by decide) rfl rfl rfl;exact iK B c g eq f (by decide) e λb a hh l j m k=>h b a l j (by simpa using m) k
def mw{lo hi:Nat}(a:L.b<lo)(o:L.p<L.b/\L.k<L.b/\L.p≠L.k):∀i,lo<=i->i<hi-> ¬M0 L i:=λi b c=>O8 (zt a b) o
noncomputable abbrev MC(hh a:Nat)(at_ sort:Int):List Mk:=if sort=0 then []else [⟨hh,a,at_,sort,true,true,true,sort==1⟩]
def yH{lo q:Nat}{c:T}{ai:TL}{sort:Int}(B:dI L aL ms st)(f:L.b<lo)(t:lo<=q)(eq:st[q]? =some (.list ai.aZ))(v:cQ lo st.length zn st ai)(x:Rep lo st.length zn st c)(u:0<=sort)(k:ms.length<900000)
  (h:∀a b g hh,st.length<=b->b<g->aC (M0 L) st a->dI L (aL+2) (ms++MC hh g (aL+2) sort) a->Rep lo a.length zn a (.mk g (aL+2) 18 0 sort (.k c (.mk b (aL+1) 71 0 0 ai) (.no .z)))->K (.ref g) a):
  aq (d+5) 45 [.ref L.b,.ref c.a,.ref q,.int sort] st K:=by
 refine call_in MD [some (.ref L.b),some (.ref c.a),some (.ref q),some (.int sort)] ?_ (by decide) rfl rfl rfl;simp [MD,ah,fZ,bq,bV,iU,cJ,fQ,cy,aW,vY,ao,ay,big];have y:lo<st.length:=by have:=aJ eq;exact zt (za t 1) this
 refine kO B f t eq v k λn b g1 k1 b1 m=> ?_;have j:=m.bd b (by dsimp only [T.ids];exact(.head _));refine iK (ai:= .k c (.mk b (aL+1) 71 0 0 ai) (.no .z)) (b1.app _) f (zt j.1 (zs j.2)) aD ?_ u k λw g hh g2 k2 b2 o=> ?_
 .have p:aC (M0 L) n (n++ [.list [V.ref c.a,V.ref b,V.none]]):=aC.app _ _;exact⟨((x.keep k1 (mw f B.ord)).keep p (mw f B.ord)).wide (bP _) (by have:=k1.len;simp;exact dP this),(m.keep p (mw f B.ord)).wide (bP _) al,trivial⟩
 .have e:aL+1+1=aL+2:=(x_ (Int.not_lt.mp λl=>dJ (fP _) (AI (AI bH (.num 2)) ck) (AI (AI bH ck) ck) l rfl) (Int.not_lt.mp λl=>dJ (fP _) (AI (AI (AI bH ck) ck) ck) (AI bH (.num 2)) l rfl));rw [e]at b2 o;exact h w b g hh g1 (by simp at g2;exact zt j.2 (zs g2)) ((k1.trans (aC.app _ _)).trans k2) b2 o
end
noncomputable def eX(x y z r:Bool)(m:Mk):Mk:={m with w0:=m.w0&&x,w1:=m.w1&&y,w2:=m.w2&&z,row:=m.row&&r}
def aC.hit{M:Nat->Prop}{st:St}{a:Nat}{o x:O}(h:st[a]? =some o)(hh:uK o=true):aC M st (st.set a x):=⟨by simp,λi y n e z=>aT (λq=>by subst q;rw [h]at e;cases e;rw [hh]at z;cases z) e⟩
section
variable{d:Nat}{st:St}{L:Lay}{aL:Int}{pre post:List Mk}
def dI.ME{m m':Mk}(B:dI L aL (pre++m::post) st)(j:m'.h=m.h)(k:m'.at_=m.at_):dI L aL (pre++m'::post) (st.set m.h (vK m')):=by
 have o:=B.ord;have c:=B.hits m (by simp);have nd:=B.nd;rw [CK,E_]at nd;refine fD nd λn1 g n4=> ?_;obtain ⟨n2,n3⟩:=g;have h:=B.Cw.1;rw [CK,E_]at h;refine fD h λh g l=> ?_;obtain ⟨n,p⟩:=g;refine⟨let ⟨xs,e⟩:=B.pile;⟨xs,aT (by have:=c.1;exact zg (zt o.1 (zs c.1))) e⟩,aT (by have:=c.1;exact zg c.1) B.vM,?_,?_,?_,⟨?_,?_⟩,B.ord⟩
 .have:=B.marks;rw [aT (by have:=c.1;exact zg (zt o.2.1 (zs c.1))) this];simp [j]
 .intro x a;refine a_ (List.mem_append.mp a) (λa=> ?_) λa=> ?_
  .have:=B.hits x (by simp [a]);exact⟨this.1,aT (by have:=n4 x a m (.head _);exact zg this) this.2⟩
  .refine a_ (List.mem_cons.mp a) (λb=> ?_) λa=> ?_
   any_goals subst b
   .rw [j];exact⟨c.1,bh c.2⟩
   .have:=B.hits x (by simp [a]);exact⟨this.1,aT (by have:=n2 x a;exact zl this) this.2⟩
 .rw [CK,E_];refine⟨n1,⟨λx a=>by rw [j];exact n2 x a,n3⟩,λx a y f=> ?_⟩;refine a_ (List.mem_cons.mp f) (λb=> ?_) λf=> ?_
  any_goals subst b
  .rw [j];exact n4 x a m (.head _)
  .exact n4 x a y (.tail _ f)
 .rw [CK,E_];refine⟨h,⟨λx a=>by rw [k];exact n x a,p⟩,λx a y f=> ?_⟩;refine a_ (List.mem_cons.mp f) (λb=> ?_) λf=> ?_
  any_goals subst b
  .rw [k];exact l x a m (.head _)
  .exact l x a y (.tail _ f)
 .intro x a;refine a_ (List.mem_append.mp a) (λa=> ?_) λa=> ?_
  .exact B.Cw.2 x (by simp [a])
  .refine a_ (List.mem_cons.mp a) (λb=> ?_) λa=> ?_
   any_goals subst b
   .rw [k];exact B.Cw.2 m (by simp)
   .exact B.Cw.2 x (by simp [a])
def Fb:eY 0 3 1=[.int 0,.int 1,.int 2]:=by decide
def fu{C:aR}{m:Loc}{K:KV}{x y:IE}{p q:Bool}(c:∀K,K (.bool p) st->vE C x m st K)(b:∀K,K (.bool q) st->vE C y m st K)(h:K (.bool (p&&q)) st):vE C (.dh (.d x y)) m st K:=by
 refine c _ ?_;cases p
 .exact h
 .show iB C (.e y) m st K;exact b _ h
def yI{C:aR}{m:Loc}{K:KS}{i:Int}{h:Nat}{xs:List V}{p q:Bool}{ei f:IE}(b:m[4]? =some (some (.ref h)))(hh:st[h]? =some (.list xs))(hi:0<=i/\i<xs.length)(c:i<2^62)(k:xs[i.toNat]? =some (.bool p))
  (e:∀st K,K (.int i) st->vE C ei m st K) (g:∀K,K (.bool q) st->vE C f m st K) (n:K .next m (st.set h (.list (xs.set i.toNat (.bool (p&&q)))))):vS C (.sN (.l 4) ei (.dh (.d (.sub (.l 4) ei) f))) m st K:=by
 refine fu (p:=p) (λK l=> ?_) g ?_
 .dsimp only [jH,bq];simp only [b];refine e _ _ ?_;simp only [hh];rw [if_neg (Int.not_lt.mpr hi.1),k];exact⟨⟨(Int.not_le.mp λa=>dJ (fP _) (AI jb bH) (AI bH (.neg (.num 4611686018427387904))) (bE hi.1 a) rfl),(Int.not_le.mp λa=>dJ (fP _) (AI (AI bH ck) (.num 4611686018427387904)) (AI (.num 4611686018427387904) bH) (bE c a) rfl)⟩,(Int.not_lt.mp λa=>dJ (fP _) (AI jb (AI bH ck)) (AI bH jb) (bE hi.1 a) rfl),l⟩
 .dsimp only [bq];simp only [b];refine e _ _ ?_;simp only [hh];exact⟨hi,n⟩
def tw{C:aR}{K:KS}{a b c:Option V}{x y z:Bool}{h:Nat}{xs:List V}{p q:Bool}{j:Nat}(f:j<3)(hh:st[h]? =some (.list xs))(g:xs.length=6)(k:xs[2+j]? =some (.bool p))(m:[V.bool x,.bool y,.bool z][j]? =some (.bool q))
  (n:K .next [a,b,some (.tup [.bool x,.bool y,.bool z]),c,some (.ref h),some (.int j)] (st.set h (.list (xs.set (2+j) (.bool (p&&q)))))):vB C foldI [a,b,some (.tup [.bool x,.bool y,.bool z]),c,some (.ref h),some (.int j)] st K:=by
 dsimp only [foldI,ah];refine yI (i:=2+(j:Int)) (q:=q) rfl hh ⟨iT (2+j),Int.ofNat_lt.mpr (zt (C3 f 2) (g▸by decide))⟩ (Int.not_le.mp λl=>dJ (fP _) (AI (AI bH ck) (.num 4611686018427387904)) (AI (.num 3) (AI (.num 2) bH)) (bE (Int.ofNat_lt.mpr f) l) rfl) (by rw [show(2+(j:Int)).toNat=2+j from rfl];exact k) (λst K e=> ?_) (λK e=> ?_) ?_
 .dsimp only [vE,jO,binI,two,fR,bM,cF];exact e
 .simp only [bq,jH,bM,cF,se,m];exact⟨(iT _),(zu (zt f (bI rfl))),e⟩
 .dsimp only [show(2+(j:Int)).toNat=2+j from rfl,aa,au];exact n
def Fc{C:aR}{K:KS}{a b f:Option V}{x y z r:Bool}{m:Mk}(c:st[m.h]? =some (vK m))
  (g:∀f,K .next [a,b,some (.tup [.bool x,.bool y,.bool z]),some (.bool r),some (.ref m.h),f] (st.set m.h (vK (eX x y z r m)))):vB C BF [a,b,some (.tup [.bool x,.bool y,.bool z]),some (.bool r),some (.ref m.h),f] st K:=by
 dsimp only [BF,ah,iu,C4];dsimp only [vL,vE];refine⟨by decide,?_⟩;rw [Fb];dsimp only [bC,Src,cB,cA];refine⟨trivial,tw (j:=0) (bI rfl) c rfl rfl rfl ⟨trivial,tw (j:=1) (bI rfl) (bh c) rfl rfl rfl ⟨trivial,tw (j:=2) (bI rfl) (bh (bh c)) rfl rfl rfl ⟨trivial,?_⟩⟩⟩⟩;dsimp only [aa,ah];refine yI (i:=5) (p:=m.row) (q:=r) rfl (bh (bh (bh c))) (by simp) (by lia) rfl (λst K e=>by rw [bV];exact e) (λK e=>by rw [bq];exact e) ?_;dsimp only [aa,au];have:=g (some (.int 2));simpa [eX,List.set_set]using this
def C5{C:aR}{KS:KS}{x y z r:Bool}{sl:Nat}{src:List V}{a b:Option V}:∀(c:List Mk) (pre:List Mk) (st:St) (g f:Option V),dI L aL (pre++c) st->st[sl]? =some (.list src)->(∀m ∈ c,sl≠m.h)->
  (∀e g f,dI L aL (pre++c.map (eX x y z r)) e->aC (M0 L) st e->e.length=st.length->KS .next [a,b,some (.tup [.bool x,.bool y,.bool z]),some (.bool r),g,f] e)->
  bC (λm st k=>vB C BF m st k) (λv m=>some (m.set 4 (some v))) (some (sl,src)) (c.map λm=>V.ref m.h) [a,b,some (.tup [.bool x,.bool y,.bool z]),some (.bool r),g,f] st KS:=by
 intro zl
 induction zl with
 |nil=>
  intro pre st g f B h j n;exact⟨h,n st g f (by simpa using B) (aC.refl _) rfl⟩
 |cons m c u=>
  intro pre st g f B h j n;refine⟨h,?_⟩;have p:=B.hits m (by simp);refine Fc p.2 λf=> ?_;have t:=B.ME (m':=eX x y z r m) rfl rfl;refine u (pre++ [eX x y z r m]) _ _ _ (by simpa using t) (aT (λq=>j m (.head _) q.symm) h) (λm' o=>j m' (.tail _ o)) λe g f b k l=> ?_;exact n e g f (by simpa using b) ((aC.hit p.2 rfl).trans k) (by simpa using l)
end
section
variable{d:Nat}{st:St}{K:KV}{L:Lay}{aL:Int}{ms0 ms:List Mk}
def dG{x y z r:Bool}(B:dI L aL (ms0++ms) st)(c:ms0.length+ms.length<900000)
  (h:∀a,dI L aL (ms0++ms.map (eX x y z r)) a->aC (M0 L) st a->K .none a):aq (d+1) 44 [.ref L.b,.int ms0.length,.tup [.bool x,.bool y,.bool z],.bool r] st K:=by
 refine call_in MF [some (.ref L.b),some (.int ms0.length),some (.tup [.bool x,.bool y,.bool z]),some (.bool r),none,none] ?_ (by decide) rfl rfl rfl;rw [MF,ah,iu,h_];have b:=B.vM;have k:=B.marks;simp [bq,bV,jH,Lj,b,k,List.lookup];refine⟨by decide,Int.ofNat_lt.mpr (zt (Am (zr _) c) (zb rfl):ms0.length<4611686018427387904),?_⟩;refine C5 ms ms0 _ none none (B.app _) aD (λm e q=> ?_) λa j l f g l'=> ?_
 .have:=aJ (B.hits m (by simp [e])).2;exact fV _ (zt this (ze q))
 .dsimp only [aa,au,qd];exact h a f ((aC.app _ _).trans g)
end
section
variable{d:Nat}{st:St}{K:KV}{L:Lay}{aL:Int}{ms0 ms:List Mk}
def jo{lo q:Nat}{params:TL}{body:T}{flags:Int}{ar:Bool}(B:dI L aL (ms0++ms) st)(g:L.b<lo)(m:lo<=q)(eq:st[q]? =some (.list params.aZ))(x:cQ lo st.length zn st params)(hb:Rep lo st.length zn st body)
  (t:decide (Builtin.bitAnd flags 4>0)=ar) (j:ms0.length+ms.length<900000)
  (h:∀a b c hh,st.length<=b->b<c->aC (M0 L) st a->dI L (aL+2) (ms0++(ms.map (eX false ar false false)++ [⟨hh,c,aL+2,4,true,true,true,false⟩])) a->
   Rep lo a.length zn a (.mk c (aL+2) 27 flags 4 (.no (.c (.mk b (aL+1) 71 0 0 params) (.no (.e body)))))->K (.ref c) a):
  aq (d+5) 46 [.ref L.b,.int ms0.length,.ref q,.ref body.a,.int flags] st K:=by
 refine call_in MV [some (.ref L.b),some (.int ms0.length),some (.ref q),some (.ref body.a),some (.int flags)] ?_ (by decide) rfl rfl rfl;have z:lo<st.length:=by have:=aJ eq;exact zt (za m 1) this
 have nm:=λhi=>mw (hi:=hi) g B.ord;have v:aq (d+4) 44 [.ref L.b,.int ms0.length,.tup [.bool false,.bool ar,.bool false],.bool false] st λA st=>vB (aq (d+4)) (.e (.ret (.M 40 0 4 0 (.list (.r .o (.L 42 0 2) .o (.l 3))) (.l 4) (.g 31)))) [some (.ref L.b),some (.int ms0.length),some (.ref q),some (.ref body.a),some (.int flags)] st (oM K):=by
  refine dG B j λC b1 k1=> ?_;have n:=k1.keep _ _ (nm (q+1) q m (bP _)) eq (iS _);simp [ah,fZ,bq,bV,iU,cJ,fQ,cy,aW,jV,xh,ao,ay,big];have u:(ms0++ms.map (eX false ar false false)).length<900000:=by simp;exact j
  refine kO b1 g m n ((x.keep k1 (nm _)).wide (bP _) k1.len) u λl b g2 k2 b2 w=> ?_;have f:=w.bd b (by dsimp only [T.ids];exact(.head _));have k:aC (M0 L) l (l++ [.list [V.none,V.ref b,V.none,V.ref body.a]]):=aC.app _ _;have l1:=k1.len;have l2:=k2.len;refine iK (lo:=lo) (q:=l.length) (ai:= .no (.c (.mk b (aL+1) 71 0 0 params) (.no (.e body)))) (b2.app _) g (zt f.1 (zs f.2)) aD ?_ (by decide) u λy c hh g3 k3 p o=> ?_
  .exact⟨(w.keep k (nm _)).wide (bP _) al,(((hb.keep k1 (nm _)).keep k2 (nm _)).keep k (nm _)).wide (bP _) (by simp;exact dP (zt l1 l2)),trivial⟩
  .have e:aL+1+1=aL+2:=by lia
   rw [e]at p o;refine h y b c hh (zt l1 g2) (by simp at g3;exact zt f.2 (zs g3)) (((k1.trans k2).trans k).trans k3) ?_ o;simpa [fW]using p
 rw [MV,ah];simp only [gy,bq,bV,iU,cJ,j8,d_,D_,cy,aW,bM,cF,kH,I7,cv,b_,tr,bY,t,I8,I9,aa];cases ar<;>exact v
def nu:Option T->V
 |none=> .none
 |some t=> .ref t.a
noncomputable def oX:Option T->TL->TL
 |none,r=> .no r
 |some t,r=> .c t r
def pL{lo q:Nat}{members:TL}{base:Option T}(B:dI L aL (ms0++ms) st)(e:L.b<lo)(l:lo<=q)(eq:st[q]? =some (.list members.aZ))(I:cQ lo st.length zn st members)(hb:∀t,base=some t->Rep lo st.length zn st t)(m:ms0.length+ms.length<900000)
  (h:∀c a b f hh,st.length<=a->a<b->b<f->aC (M0 L) st c->dI L (aL+3) (ms0++(ms.map (eX false false true false)++ [⟨hh,f,aL+3,4,true,true,true,false⟩])) c->
   Rep lo c.length zn c (.mk f (aL+3) 61 0 4 (.no (oX base (.no (.d (.mk a (aL+1) 71 0 0 .z) (.mk b (aL+2) 71 0 0 members))))))->K (.ref f) c):
  aq (d+5) 47 [.ref L.b,.int ms0.length,nu base,.ref q] st K:=by
 refine call_in MW [some (.ref L.b),some (.int ms0.length),some (nu base),some (.ref q),none] ?_ (by decide) rfl rfl rfl;have G:lo<st.length:=by have:=aJ eq;exact zt (za l 1) this
 have nm:=λhi=>mw (hi:=hi) e B.ord;simp [MW,ah,cL,gy,fZ,bq,bV,iU,cJ,fQ,cy,aW,I_,kG,xh,aa,ao,ay,big];refine dG B m λp b1 k1=> ?_;have J:=k1.keep _ _ (nm (q+1) q l (bP _)) eq (iS _);have o:(ms0++ms.map (eX false false true false)).length<900000:=by simp;exact m
 have l1:=k1.len;have D:aC (M0 L) p (p++ [.list []]):=aC.app _ _;refine kO (ai:= .z) (lo:=lo) (b1.app _) e (zt (zs G) l1) aD trivial o λH a g2 k2 b2 C=> ?_;have zS:=k1.trans (D.trans k2);have y:p.length<a:=by simp at g2;exact g2
 have l2:=zS.len;refine kO (ai:=members) (lo:=lo) b2 e l (zS.keep _ _ (nm (q+1) q l (bP _)) eq (iS _)) ((I.keep zS (nm _)).wide (bP _) l2) o λg b g3 k3 u n=> ?_;have w:=C.bd a (.head _);have j:=n.bd b (.head _);have l3:=k3.len;have k:aC (M0 L) g (g++ [.list [V.none,nu base,V.none,V.ref a,V.ref b]]):=aC.app _ _;have e1:aL+1+1=aL+2:=by lia
 have e2:aL+2+1=aL+3:=by lia
 rw [e1]at u n;refine iK (lo:=lo) (q:=g.length) (ai:= .no (oX base (.no (.d (.mk a (aL+1) 71 0 0 .z) (.mk b (aL+2) 71 0 0 members))))) (u.app _) e (zt j.1 (zs j.2)) (by rw [aD];cases base<;>rfl) ?_ (by decide) o λE f hh g4 k4 A v=> ?_
 .have x:=((C.keep k3 (nm _)).keep k (nm _)).wide (bP lo) (show H.length<=(g++ [O.list [V.none,nu base,V.none,V.ref a,V.ref b]]).length by simp;exact dP l3);have z:=(n.keep k (nm _)).wide (bP lo) (show g.length<=(g++ [O.list [V.none,nu base,V.none,V.ref a,V.ref b]]).length by simp)
  cases base with
  |none=>exact⟨x,z,trivial⟩
  |some t=>exact⟨((((hb t rfl).keep zS (nm _)).keep k3 (nm _)).keep k (nm _)).wide (bP _) (by simp;exact dP (zt l2 l3)),x,z,trivial⟩
 .rw [e2]at A v;refine h E a b f hh (zt l1 (zs y)) (zt w.2 g3) (by simp at g4;exact zt j.2 (zs g4)) (((zS.trans k3).trans k).trans k4) ?_ v;simpa [fW]using A
end
noncomputable def e0(k:Int):Bool:= !(k==27)&& !(k==61)
noncomputable def arrow(f:Int):Bool:=decide (Builtin.bitAnd f 4≠0)
noncomputable def e1(k f:Int):Bool:= !(k==61)&&(!(k==27)||arrow f)
noncomputable def e2(k:Int):Bool:= !(k==27)
noncomputable abbrev Core:=Nat×Int×Int×Bool×Bool×Bool
noncomputable def core(m:Mk):Core:=(m.a,m.at_,m.sort,m.w0,m.w1,m.w2)
noncomputable def yT(x y z:Bool)(c:Core):Core:=(c.1,c.2.1,c.2.2.1,c.2.2.2.1&&x,c.2.2.2.2.1&&y,c.2.2.2.2.2&&z)
mutual
noncomputable def T.aP(x y z:Bool):T->List Core
 | .mk a at_ k f s ai=>(if s=0 then []else [(a,at_,s,x,y,z)])++ai.aP (x&&e0 k) (y&&e1 k f) (z&&e2 k)
noncomputable def TL.aP(x y z:Bool):TL->List Core
 | .z=>[]
 | .no r=>r.aP x y z
 | .c t r=>t.aP x y z++r.aP x y z
end
def T.bF(x y z:Bool)(a:Nat)(at_ k f s:Int)(ai:TL):T.aP x y z (T.mk a at_ k f s ai)=(if s=0 then []else [(a,at_,s,x,y,z)])++TL.aP (x&&e0 k) (y&&e1 k f) (z&&e2 k) ai:=rfl
def TL.bF(x y z:Bool):TL.aP x y z TL.z=[]:=rfl
def TL.fy(x y z:Bool)(r:TL):TL.aP x y z r.no=TL.aP x y z r:=rfl
def TL.dY(x y z:Bool)(t:T)(r:TL):TL.aP x y z (TL.c t r)=T.aP x y z t++TL.aP x y z r:=rfl
mutual
noncomputable def T.bare:T->T
 | .mk a at_ k f s ai=>if k=33 then ai.uR (.mk a at_ k f s ai)else .mk a at_ k f s ai
noncomputable def TL.uR(t:T):TL->T
 | .c u _=>u.bare
 |_=>t
end
def T.jE(a:Nat)(at_ k f s:Int)(ai:TL):(T.mk a at_ k f s ai).bare=if k=33 then TL.uR (T.mk a at_ k f s ai) ai else T.mk a at_ k f s ai:=rfl
noncomputable def Ei:TL->Bool
 | .c u _=>u.bare.kind==10
 |_=>false
noncomputable def yo(k:Int):Bool:=[25,22,21,19,16,17,34,35,15].contains k
noncomputable def mH(k:Int)(ai:TL):Int:=if k=18 then(if Ei ai then 1 else 2)else if yo k then 2 else if k=52 then 3 else if k=27\/k=61\/k=9 then 4 else 0
noncomputable def nO:TL->Bool
 | .c _ _=>true
 |_=>false
noncomputable def HZ(k:Int)(ai:TL):Bool:=(!(k==33||k==18||k==43)||nO ai)&&decide (ai.aZ.length<1000)
mutual
noncomputable def T.aG:T->Bool
 | .mk _ _ k _ s ai=>s==mH k ai&&HZ k ai&&ai.aG
noncomputable def TL.aG:TL->Bool
 | .z=>true
 | .no r=>r.aG
 | .c t r=>t.aG&&r.aG
end
def T.je(a:Nat)(at_ k f s:Int)(ai:TL):(T.mk a at_ k f s ai).aG=(s==mH k ai&&HZ k ai&&ai.aG):=rfl
def TL.je:TL.z.aG=true:=rfl
def TL.wH(r:TL):r.no.aG=r.aG:=rfl
def TL.kF(t:T)(r:TL):(TL.c t r).aG=(t.aG&&r.aG):=rfl
mutual
noncomputable def T.bJ:T->Bool
 | .mk _ _ _ _ _ ai=>decide (ai.aZ.length<1000)&&ai.bJ
noncomputable def TL.bJ:TL->Bool
 | .z=>true
 | .no r=>r.bJ
 | .c t r=>t.bJ&&r.bJ
end
def T.cg(a:Nat)(at_ k f s:Int)(ai:TL):(T.mk a at_ k f s ai).bJ=(decide (ai.aZ.length<1000)&&ai.bJ):=rfl
def TL.cg:TL.z.bJ=true:=rfl
def TL.jC(r:TL):r.no.bJ=r.bJ:=rfl
def TL.gc(t:T)(r:TL):(TL.c t r).bJ=(t.bJ&&r.bJ):=rfl
mutual
theorem T.eu:∀t:T,t.aG=true->t.bJ=true
 | .mk a at_ k f s ai,h=>by
  rw [T.je,cM,cM,HZ,cM]at h;rw [T.cg,h.1.2.2,uA];exact TL.eu ai h.2
theorem TL.eu:∀k:TL,k.aG=true->k.bJ=true
 | .z,_=>rfl
 | .no r,h=>by rw [TL.jC];rw [TL.wH]at h;exact TL.eu r h
 | .c t r,h=>by
  rw [TL.kF,cM]at h;rw [TL.gc,T.eu t h.1,TL.eu r h.2];rfl
end
mutual
noncomputable def T.dZ:T->List Nat
 | .mk a _ k _ _ ai=>if k=52 then [a]else if e0 k then ai.dZ else []
noncomputable def TL.dZ:TL->List Nat
 | .z=>[]
 | .no r=>r.dZ
 | .c t r=>t.dZ++r.dZ
end
def T.wK(a:Nat)(at_ k f s:Int)(ai:TL):(T.mk a at_ k f s ai).dZ=if k=52 then [a]else if e0 k=true then ai.dZ else []:=rfl
def TL.wK:TL.z.dZ=[]:=rfl
def TL.Mb(r:TL):r.no.dZ=r.dZ:=rfl
def TL.EJ(t:T)(r:TL):(TL.c t r).dZ=t.dZ++r.dZ:=rfl
noncomputable def fY(c:Core):Bool:=c.2.2.1==3&&c.2.2.2.1
noncomputable def dK(isrow:Bool)(t:T)(x:Nat):Bool:=match isrow with
 |true=>t.kind==43&&(match t.ai with
  | .c e _=>e.bare.a==x
  |_=>false)
 |false=>t.bare.a==x
mutual
theorem T.iZ(x y z p q r:Bool):∀t:T,(t.aP x y z).map (yT p q r)=t.aP (x&&p) (y&&q) (z&&r)
 | .mk a at_ k f s ai=>by
  rw [T.bF,T.bF,List.map_append,TL.iZ _ _ _ p q r ai];rw [Bool.and_right_comm x,Bool.and_right_comm y,Bool.and_right_comm z]
  congr 1
  split<;>rfl
theorem TL.iZ(x y z p q r:Bool):∀k:TL,(k.aP x y z).map (yT p q r)=k.aP (x&&p) (y&&q) (z&&r)
 | .z=>rfl
 | .no k=>by rw [TL.fy,TL.fy,TL.iZ x y z p q r k]
 | .c t k=>by rw [TL.dY,TL.dY,List.map_append,T.iZ x y z p q r t,TL.iZ x y z p q r k]
end
mutual
theorem T.gQ(x y z:Bool):∀t:T,((t.aP x y z).map (·.1)).Sublist t.ids
 | .mk a at_ k f s ai=>by
  dsimp only [T.bF,T.aU,List.map_append];have:=TL.gQ (x&&e0 k) (y&&e1 k f) (z&&e2 k) ai;split
  .exact .cons _ this
  .exact .cons_cons _ this
theorem TL.gQ(x y z:Bool):∀k:TL,((k.aP x y z).map (·.1)).Sublist k.ids
 | .z=> .slnil
 | .no k=>by rw [TL.fy,TL.cX];exact TL.gQ x y z k
 | .c t k=>by rw [TL.dY,TL.cG,List.map_append];exact(T.gQ x y z t).append (TL.gQ x y z k)
end
mutual
theorem T.Dm(y z:Bool):∀t:T,(t.aP false y z).filter fY=[]
 | .mk a at_ k f s ai=>by
  rw [T.bF,Ab,wJ,TL.Dm _ _ ai,fK];split<;>simp [fY]
theorem TL.Dm(y z:Bool):∀k:TL,(k.aP false y z).filter fY=[]
 | .z=>rfl
 | .no k=>by rw [TL.fy];exact TL.Dm y z k
 | .c t k=>by rw [TL.dY,wJ,T.Dm y z t,TL.Dm y z k];rfl
end
structure Piece (lo:Nat) (st:St) (ms:List Mk) (t:T) (isrow:Bool):Prop where
 rep:Rep lo st.length zn st t
 nd:t.ids.Nodup
 aG:t.aG=true
 perm:(ms.map core).Perm (t.aP true true true)
 ret:t.dZ=((t.aP true true true).filter fY).map (·.1)
 F8:isrow=false->t.dZ=[]
 row:∀m ∈ ms,m.row=(m.sort==1&&dK isrow t m.a)
 MZ:(ms.filter (·.sort==1)).length<=2
section
variable{lo:Nat}{st st':St}{ms es:List Mk}{t t':T}{isrow isrow' x y z r:Bool}
def Piece.mem(P:Piece lo st ms t isrow){m:Mk}(b:m ∈ ms):m.a ∈ t.ids:=by
 have a:=P.perm.mem_iff.mp (List.mem_map.mpr ⟨m,b,rfl⟩);exact(T.gQ _ _ _ t).subset (List.mem_map.mpr ⟨_,a,rfl⟩)
def PZ(m:Mk):core (eX x y z r m)=yT x y z (core m):=rfl
def Piece.wrap(P:Piece lo st ms t isrow)(o:Rep lo st'.length zn st' t')(v:t'.ids.Nodup)(d:t'.aG=true)(c:(t'.aP true true true).Perm (t.aP x y z++es.map core))
  (j:∀e ∈ es,e.sort≠1/\e.row=false) (k:t'.dZ=((t'.aP true true true).filter fY).map (·.1)) (q:isrow'=false->t'.dZ=[])
  (p:(r=true/\∀a,dK isrow' t' a=dK isrow t a)\/(r=false/\∀a ∈ t.ids,dK isrow' t' a=false)):Piece lo st' (ms.map (eX x y z r)++es) t' isrow' where
 rep:=o
 nd:=v
 aG:=d
 perm:=by
  rw [List.map_append];refine List.Perm.trans ?_ c.symm;refine List.Perm.append ?_ (oU _);have:=P.perm.map (yT x y z);rw [T.iZ,uA,uA,uA,gA]at this;rw [gA];exact this
 ret:=k
 F8:=q
 row:=λm b=>by
  rcases List.mem_append.mp b with b |b
  .refine aB (List.mem_map.mp b) λm g u=> ?_;subst u;show(m.row&&r)=(m.sort==1&&dK isrow' t' m.a);rw [P.row m g];rcases p with⟨rfl,h⟩ |⟨rfl,h⟩
   .rw [h,Bool.and_true]
   .rw [h _ (P.mem g),Bool.and_false,Bool.and_false]
  .refine cR (j m b) λC w=> ?_;rw [w];have:(m.sort==1)=false:=by simp [C]
   rw [this,Ab]
 MZ:=by
  rw [wJ,CQ,cC,bN];have e1:es.filter (·.sort==1)=[]:=by
   rw [Dj];intro e A;simp [(j e A).1]
  rw [e1];exact P.MZ
def Pa{a n:Nat}{l:List Nat}(h:n<=a)(hb:∀x ∈ l,x<n):a ∉ l:=λb=>by have:=hb a b;exact fV _ (zt this h)
end
inductive LX where
 |z |o (i:Nat) |m |p (l r:LX)
noncomputable def LX.den{α:Type}(f:Nat->α)(l:List α):LX->List α
 | .z=>[]
 | .o i=>[f i]
 | .m=>l
 | .p x y=>x.den f l++y.den f l
def LX.F9{α:Type}(f:Nat->α)(l:List α):LX.den f l LX.z=[]:=rfl
def LX.F_{α:Type}(f:Nat->α)(l:List α)(i:Nat):LX.den f l (LX.o i)=[f i]:=rfl
def LX.Ga{α:Type}(f:Nat->α)(l:List α):LX.den f l LX.m=l:=rfl
def LX.Gb{α:Type}(f:Nat->α)(l:List α)(a y:LX):LX.den f l (a.p y)=LX.den f l a++LX.den f l y:=rfl
noncomputable def LX.ones:LX->List Nat
 | .z=>[]
 | .o i=>[i]
 | .m=>[]
 | .p x y=>x.ones++y.ones
def LX.M5:LX.z.ones=[]:=rfl
def LX.M6(i:Nat):(LX.o i).ones=[i]:=rfl
def LX.M7:LX.m.ones=[]:=rfl
def LX.M8(a y:LX):(a.p y).ones=a.ones++y.ones:=rfl
noncomputable def LX.atoms:LX->Nat
 | .z=>0
 | .o _=>0
 | .m=>1
 | .p x y=>x.atoms+y.atoms
def LX.xm:LX.z.atoms=0:=rfl
def LX.xo(i:Nat):(LX.o i).atoms=0:=rfl
def LX.xq:LX.m.atoms=1:=rfl
def LX.xr(a y:LX):(a.p y).atoms=a.atoms+y.atoms:=rfl
section
variable{α:Type}{f:Nat->α}{l:List α}{n:Nat}
theorem LX.BO:∀e:LX,(e.den f l).Perm ((List.replicate e.atoms l).flatten++e.ones.map f)
 | .z=>oU _
 | .o i=>oU _
 | .m=>by simp [LX.F9,LX.F_,LX.Ga,LX.Gb,LX.xm,LX.xo,LX.xq,LX.xr,LX.M5,LX.M6,LX.M7,LX.M8]
 | .p x y=>by
  have a:=LX.BO x;have c:=LX.BO y;have b:(List.replicate (x.atoms+y.atoms) l).flatten=(List.replicate x.atoms l).flatten++(List.replicate y.atoms l).flatten:=by rw [<-wA,List.replicate_append_replicate]
  show(x.den f l++y.den f l).Perm ((List.replicate (x.atoms+y.atoms) l).flatten++(x.ones++y.ones).map f);rw [b,List.map_append];refine(a.append c).trans ?_;rw [fW,fW];refine Bs _ ?_;rw [<-fW,<-fW];exact List.Perm.append_right _ List.perm_append_comm
def LX.perm{e:LX}(h:e.atoms=1)(p:e.ones.Perm (List.range n)):(e.den f l).Perm (l++(List.range n).map f):=by
 have:=LX.BO (f:=f) (l:=l) e;rw [h]at this;simp only [List.replicate_one,iX,wC,fK]at this;exact this.trans ((p.map f).append_left l)
def LX.len{e:LX}(h:e.atoms=1)(k:e.ones.length<=6):(e.den f l).length<=l.length+6:=by
 have:=(LX.BO (f:=f) (l:=l) e).length_eq;rw [h]at this;simp only [List.replicate_one,iX,wC,fK,cC,bN]at this;exact cD λa=>bx (jt _ _ _) (AN aE (AN aI (AN (AN bg (.num 6)) aA))) (AN (.num 6) (AN (AN bg aE) aI)) (aH k (aH (ze this) a)) rfl
theorem LX.gY:∀{e:LX},e.ones=[]->l=[]->e.den f l=[]
 | .z,_,_=>rfl
 | .m,_,h=>h
 | .p x y,h,a=>by
  have h:x.ones++y.ones=[]:=h;rw [List.append_eq_nil_iff]at h;show x.den f l++y.den f l=[];rw [LX.gY h.1 a,LX.gY h.2 a];rfl
theorem LX.filter{a:Type}{p:α->Bool}{g:α->a}:∀e:LX,(∀i ∈ e.ones,p (f i)=false)->((e.den f l).filter p).map g=(List.replicate e.atoms ((l.filter p).map g)).flatten
 | .z,_=>rfl
 | .o i,h=>by
  have:=h i (List.mem_singleton.mpr rfl);simp [LX.F9,LX.F_,LX.Ga,LX.Gb,LX.xm,LX.xo,LX.xq,LX.xr,this]
 | .m,_=>by simp [LX.F9,LX.F_,LX.Ga,LX.Gb,LX.xm,LX.xo,LX.xq,LX.xr]
 | .p x y,h=>by
  show((x.den f l++y.den f l).filter p).map g=(List.replicate (x.atoms+y.atoms) ((l.filter p).map g)).flatten;rw [wJ,List.map_append,LX.filter x λi hi=>h i (nT _ hi),LX.filter y λi hi=>h i (ry _ hi),<-wA,List.replicate_append_replicate]
theorem LX.pM:∀{e:LX},e.ones=[]->e.atoms=0->e.den f l=[]
 | .z,_,_=>rfl
 | .p x y,h,a=>by
  have h:x.ones++y.ones=[]:=h;have a:x.atoms+y.atoms=0:=a;rw [List.append_eq_nil_iff]at h;show x.den f l++y.den f l=[];rw [LX.pM h.1 (iW (cD λb=>bx (fL _ _) (AN (AN aE aI) aA) (AN oW aE) (aH (ze a) b) rfl) (cD λb=>bx (CC _) (AN aE aA) oW b rfl)),LX.pM h.2 (iW (cD λb=>bx (fL _ _) (AN (AN aE aI) aA) (AN oW aI) (aH (ze a) b) rfl) (cD λb=>bx (CC _) (AN aE aA) oW b rfl))];rfl
theorem LX.rT:∀{e:LX},e.ones=[]->e.atoms=1->e.den f l=l
 | .m,_,_=>rfl
 | .p x y,h,a=>by
  have h:x.ones++y.ones=[]:=h;have a:x.atoms+y.atoms=1:=a;rw [List.append_eq_nil_iff]at h;show x.den f l++y.den f l=l;rcases Nat.add_eq_one_iff.mp a with⟨p,q⟩ |⟨p,q⟩
  .rw [LX.pM h.1 p,LX.rT h.2 q,dw]
  .rw [LX.rT h.1 p,LX.pM h.2 q,fK]
end
def asc:Nat->List Nat->Prop
 |_,[]=>True
 |m,b::r=>m<=b/\asc (b+1) r
theorem Ax:∀{bs:List Nat} {m:Nat},asc m bs->∀b ∈ bs,m<=b
 |b::r,m,h,x,a=>by
  rcases List.mem_cons.mp a with rfl |a
  .exact h.1
  .exact iA (iA h.1 (Nat.le_succ b)) (Ax h.2 x a)
def M9:∀{bs:List Nat} {m:Nat},asc m bs->bs.Nodup:=by
 intro zl
 induction zl with
 |nil=>
  intro _ _;exact yU
 |cons b r a=>
  intro m h;exact List.nodup_cons.mpr ⟨λc=>absurd (Ax h.2 b c) (fV b),a h.2⟩
def eH{bs:List Nat}{m:Nat}{l:List Nat}(h:asc m bs)(a:∀x ∈ l,x<m){b:Nat}(hb:b ∈ bs):b ∉ l:=λc=>absurd (pG (a b c) (Ax h b hb)) (xu b)
def Dn(bs:List Nat):(List.range bs.length).map (λi=>bs.getD i 0)=bs:=by
 refine List.ext_getElem (by simp) λi b a=> ?_;simp [List.getD,a]
def LX.nd{e:LX}{bs:List Nat}{m n:Nat}{l:List Nat}(h:e.atoms=1)(p:e.ones.Perm (List.range n))(hb:bs.length=n)(c:asc m bs)(g:∀x ∈ l,x<m)(k:l.Nodup):(e.den (λi=>bs.getD i 0) l).Nodup:=by
 subst hb;rw [(LX.perm h p).nodup_iff,Dn,nc];exact⟨k,M9 c,λa j b d e=>eH c g d (e▸j)⟩
def tL{t t':T}{x y z:Bool}{es:List Core}(c:(t.aP x y z).filter fY=[])(p:(t'.aP true true true).Perm (t.aP x y z++es))(a:es.filter fY=[])(b:t'.dZ=[]):t'.dZ=((t'.aP true true true).filter fY).map (·.1):=by
 have q:=p.filter fY;rw [wJ,c,a]at q;rw [b,List.perm_nil.mp q];rfl
def jw{t:T}{y z:Bool}:(t.aP false y z).filter fY=[]:=by
 have h:t.aP false y z=(t.aP true true true).map (yT false y z):=(T.iZ true true true false y z t).symm;rw [h,CQ];rw [List.map_eq_nil_iff,Dj];intro c _;simp [fY,yT]
def dR{t:T}{x y z:Bool}(b:(t.aP true true true).filter fY=[]):(t.aP x y z).filter fY=[]:=by
 have h:t.aP x y z=(t.aP true true true).map (yT x y z):=(T.iZ true true true x y z t).symm;rw [h,CQ];rw [List.map_eq_nil_iff,Dj];rw [Dj]at b;intro c d a;exact b c d (by simp only [Function.comp_apply,fY,yT,cM]at a ⊢;exact⟨a.1,a.2.1⟩)
def Gd{t t':T}{e r:LX}{f:Nat->Core}{g:Nat->Nat}(h:t.dZ=((t.aP true true true).filter fY).map (·.1))(j:t'.aP true true true=e.den f (t.aP true true true))(b:e.atoms=1)(a:e.ones=[])(d:t'.dZ=r.den g t.dZ)(c:r.atoms=1)(ro:r.ones=[]):t'.dZ=((t'.aP true true true).filter fY).map (·.1):=by
 rw [d,j,LX.rT ro c,LX.rT a b];exact h
def kU(t u:T)(r:TL):TL.uR t (.c u r)=u.bare:=rfl
section
variable{d:Nat}{st st':St}{K:KV}{L:Lay}{aL:Int}{ms0 ms:List Mk}{lo:Nat}
def Rep.up{t:T}(o:L.p<L.b/\L.k<L.b/\L.p≠L.k)(a:L.b<lo)(k:aC (M0 L) st st')(r:Rep lo st.length zn st t):Rep lo st'.length zn st' t:=(r.keep k (mw a o)).wide (bP _) k.len
def cQ.up{t:TL}(o:L.p<L.b/\L.k<L.b/\L.p≠L.k)(a:L.b<lo)(k:aC (M0 L) st st')(r:cQ lo st.length zn st t):cQ lo st'.length zn st' t:=(r.keep k (mw a o)).wide (bP _) k.len
def bR{kind flags:Int}{w:V}{ai:TL}{vs:List V}(l:vs=ai.aZ)(B:dI L aL ms st)(c:L.b<lo)(f:lo<=st.length)(j:cQ lo st.length zn st ai)(e:ms.length<900000)
  (h:∀st' a,st.length<a->aC (M0 L) st st'->dI L (aL+1) ms st'->Rep lo st'.length zn st' (.mk a (aL+1) kind flags 0 ai)->K (.ref a) st'):aq (d+3) 40 [.ref L.b,.int kind,w,.ref st.length,.int flags,.int 0] (st++ [.list vs]) K:=by
 subst l;exact iK (B.app _) c f aD (j.up B.ord c (aC.app _ _)) (by decide) e λs a hh g k b r=>h s a (by simp at g;exact g) ((aC.app _ _).trans k) (by simpa using b) r
def jK{kind flags sort:Int}{w:V}{ai:TL}{vs:List V}(e:0<sort)(m:vs=ai.aZ)(B:dI L aL ms st)(c:L.b<lo)(j:lo<=st.length)(l:cQ lo st.length zn st ai)(f:ms.length<900000)
  (h:∀st' a hh,st.length<a->aC (M0 L) st st'->dI L (aL+1) (ms++ [⟨hh,a,aL+1,sort,true,true,true,sort==1⟩]) st'->Rep lo st'.length zn st' (.mk a (aL+1) kind flags sort ai)->K (.ref a) st'):aq (d+3) 40 [.ref L.b,.int kind,w,.ref st.length,.int flags,.int sort] (st++ [.list vs]) K:=by
 subst m;exact iK (B.app _) c j aD (l.up B.ord c (aC.app _ _)) (uz e) f λs a hh g k b r=>h s a hh (by simp at g;exact g) ((aC.app _ _).trans k) (by rw [if_neg (ux e)]at b;exact b) r
def tC{ai:TL}{vs:List V}(j:vs=ai.aZ)(B:dI L aL ms st)(c:L.b<lo)(l:lo<=st.length)(f:cQ lo st.length zn st ai)(e:ms.length<900000)
  (h:∀st' a,st.length<a->aC (M0 L) st st'->dI L (aL+1) ms st'->Rep lo st'.length zn st' (.mk a (aL+1) 71 0 0 ai)->K (.ref a) st'):aq (d+4) 42 [.ref L.b,.ref st.length] (st++ [.list vs]) K:=by
 subst j;exact kO (B.app _) c l aD (f.up B.ord c (aC.app _ _)) e λs a g k b r=>h s a (by simp at g;exact g) ((aC.app _ _).trans k) b r
def jZ{ai:TL}{vs:List V}(j:vs=ai.aZ)(B:dI L aL ms st)(c:L.b<lo)(l:lo<=st.length)(f:cQ lo st.length zn st ai)(e:ms.length<900000)
  (h:∀st' a,st.length<a->aC (M0 L) st st'->dI L (aL+1) ms st'->Rep lo st'.length zn st' (.mk a (aL+1) 59 0 0 ai)->K (.ref a) st'):aq (d+4) 43 [.ref L.b,.ref st.length] (st++ [.list vs]) K:=by
 subst j;exact yG (B.app _) c l aD (f.up B.ord c (aC.app _ _)) e λs a g k b r=>h s a (by simp at g;exact g) ((aC.app _ _).trans k) b r
def tM{c:T}{ai:TL}{vs:List V}{sort:Int}(g:0<sort)(n:vs=ai.aZ)(B:dI L aL ms st)(f:L.b<lo)(l:lo<=st.length)(m:cQ lo st.length zn st ai)(o:Rep lo st.length zn st c)(j:ms.length<900000)
  (h:∀st' e a hh,st.length<e->e<a->aC (M0 L) st st'->dI L (aL+2) (ms++ [⟨hh,a,aL+2,sort,true,true,true,sort==1⟩]) st'->Rep lo st'.length zn st' (.mk a (aL+2) 18 0 sort (.k c (.mk e (aL+1) 71 0 0 ai) (.no .z)))->K (.ref a) st'):
  aq (d+5) 45 [.ref L.b,.ref c.a,.ref st.length,.int sort] (st++ [.list vs]) K:=by
 subst n;exact yH (B.app _) f l aD (m.up B.ord f (aC.app _ _)) (o.up B.ord f (aC.app _ _)) (uz g) j λs e a hh g1 g2 k b r=>h s e a hh (by simp at g1;exact g1) g2 ((aC.app _ _).trans k) (by rw [MC,if_neg (ux g)]at b;exact b) r
def and_true(m:Mk):eX true true true false m={m with row:=false}:=by cases m;simp [eX]
def fc{b:Type}{p:b->Prop}{a:b}{l:List b}(h:p a)(k:∀x ∈ l,p x):∀x ∈ a::l,p x:=List.forall_mem_cons.mpr ⟨h,k⟩
def f0{a:Type}{p:a->Prop}:∀x ∈([]:List a),p x:=λb h=>by cases h
def wY{a:Nat}{l:List Nat}(h:∀x ∈ l,x<a)(k:l.Nodup):(a::l).Nodup:=List.nodup_cons.mpr ⟨λm=>xu _ (h a m),k⟩
def Tn{a:Nat}{l:List Nat}(h:∀x ∈ l,a<x)(k:l.Nodup):(a::l).Nodup:=List.nodup_cons.mpr ⟨λm=>xu _ (h a m),k⟩
def R9{a:Nat}:[a].Nodup:=wY f0 yU
def Rd{a b:Nat}(h:a<b):[b,a].Nodup:=wY (fc h f0) R9
def M_{a b:Nat}(h:a<b):[a,b].Nodup:=Tn (fc h f0) R9
def To{a b c:Nat}(h:a<b)(k:b<c):[c,a,b].Nodup:=wY (fc (gV h k) (fc k f0)) (M_ h)
def P_{a b c:Nat}(h:a<b)(k:b<c):[c,b,a].Nodup:=wY (fc k (fc (gV h k) f0)) (Rd h)
def R_{a b c:Nat}(h:a<b)(k:b<c):[b,a,c].Nodup:=List.nodup_cons.mpr ⟨λm=>(List.mem_cons.mp m).elim (λz=>xu a (z▸h)) λz=>xu c (List.mem_singleton.mp z▸k),M_ (gV h k)⟩
def Tp{a b c d:Nat}(h:a<b)(k:b<c)(l:c<d):[d,b,a,c].Nodup:=wY (fc (gV k l) (fc (gV h (gV k l)) (fc l f0))) (R_ h k)
def Sa{a b c d:Nat}(h:a<b)(k:b<c)(l:c<d):[d,c,b,a].Nodup:=wY (fc l (fc (gV k l) (fc (gV h (gV k l)) f0))) (P_ h k)
def T9{a b c d e f:Nat}(j:a<b)(n:b<c)(o:c<d)(l:d<e)(k:e<f):[f,a,e,d,b,c].Nodup:=by
 have h:=gV n o;have g:=gV h l;have m:=gV o l;exact wY (fc (gV j (gV g k)) (fc k (fc (gV l k) (fc (gV g k) (fc (gV m k) f0))))) (Tn (fc (gV j g) (fc (gV j h) (fc j (fc (gV j n) f0)))) (wY (fc l (fc g (fc m f0))) (wY (fc h (fc o f0)) (M_ n))))
def Js(B:dI L aL ms0 st)(e:L.b<lo)(J:lo<=st.length)(U:ms0.length<800000)
  (h:∀st' I z t w,dI L I (ms0++z) st'->aC (M0 L) st st'->Piece lo st' z t w->z.length<=2->t.ids.length<=9->K (.tup [.ref t.a,.bool w]) st'):aq (d+6) 48 [.ref L.p,.ref L.b] st K:=by
 refine call_in Na [some (.ref L.p),some (.ref L.b),none,none,none,none,none,none] ?_ (by decide) rfl rfl rfl;unfold Na;dsimp only [ah];dsimp only [vS,vE,vL,bM,cB,cA,aa];refine fH B (by decide) λv s1 h0 h9 b1 k1 l1=> ?_;have hv:=T_ h0 h9;have o:=B.ord;have y:=(zt U (zr 100000));have z2:∀m:Mk,(ms0++ [m]).length<900000:=λm=>by simp;exact zt (za U 1) (zr 99999)
 have fin:∀(st':St) (I:Int) (z:List Mk) (t:T) (w:Bool),dI L I (ms0++z) st'->aC (M0 L) st st'->Rep lo st'.length zn st' t->t.ids.Nodup->t.aG=true->(z.map core).Perm (t.aP true true true)->
   t.dZ=((t.aP true true true).filter fY).map (·.1)->(w=false->t.dZ=[])->(∀m ∈ z,m.row=(m.sort==1&&dK w t m.a))->z.length<=2->t.ids.length<=9->K (.tup [.ref t.a,.bool w]) st':=
  λst' I z t w b k r n g p e1 e2 e3 e4 e5=>h st' I z t w b k ⟨r,n,g,p,e1,e2,e3,iA (yq _ _) e4⟩ e4 e5
 have bl:=λhi t s (r:Rep lo hi zn s t)=>r.bd;rcases hv with rfl |rfl |rfl |rfl |rfl |rfl |rfl |rfl |rfl
 .apply zO rfl rfl;apply qe rfl rfl;dsimp only [ah];dsimp only [vS,vE,vL,aa,big,bM,cF,cA,cB,cY,mD];refine⟨by decide,bR (lo:=lo) (ai:= .z) rfl b1 e (zt J (zf l1)) trivial y λH f g2 k2 b2 u=> ?_⟩;have l2:=k2.len;have w2:=u.bd f cW;apply Cv rfl rfl;dsimp only [ah];dsimp only [vS,vE,vL,aa,big,cA,cB,cY];refine⟨by decide,?_⟩;apply qe rfl rfl;dsimp only [ah];dsimp only [vS,vE,vL,ao,ay,bM,cF,jR];refine tM (lo:=lo) (c:=(.mk f (aL+1) 10 0 0 .z)) (ai:= .z) (by decide) rfl b2 e (zt w2.1 (zs w2.2)) trivial u y λN l G hh g3 g4 k3 E x=> ?_;exact fin N _ _ (.mk G (aL+1+2) 18 0 1 (.k (.mk f (aL+1) 10 0 0 .z) (.mk l (aL+1+1) 71 0 0 .z) (.no .z))) false E ((k1.trans k2).trans k3) x (To (zt w2.2 (zs g3)) g4)
   rfl (oU _) rfl (λQ=>rfl) (by simp [dK,T.jE,kU,T.a]) (bI rfl) (bI rfl)
 .apply zO rfl rfl;apply qe rfl rfl;dsimp only [ah];dsimp only [vS,vE,vL,aa,big,bM,cF,cA,cB,cY,mD];refine⟨by decide,bR (lo:=lo) (ai:= .z) rfl b1 e (zt J (zf l1)) trivial y λH f g2 k2 b2 u=> ?_⟩;have l2:=k2.len;have w2:=u.bd f cW;apply qe rfl rfl;apply cj rfl;dsimp only [ah];dsimp only [vS,vE,vL,aa,big,bM,cF,cA,cB,cV,cY,vX];refine⟨by decide,bR (lo:=lo) (ai:= .e (.mk f (aL+1) 10 0 0 .z)) rfl b2 e (zt w2.1 (zs w2.2)) ⟨u,trivial⟩ y λN l g3 k3 E x=> ?_⟩;have l3:=k3.len;have j:=x.bd l cW;dsimp only [au,aa];dsimp only [ah];dsimp only [vS,vE,vL,aa,big,cA,cB,cY];refine⟨by decide,?_⟩;apply qe rfl rfl;dsimp only [ah];dsimp only [vS,vE,vL,ao,ay,bM,cF,jR];refine tM (lo:=lo) (c:=(.mk l (aL+1+1) 33 0 0 (.e (.mk f (aL+1) 10 0 0 .z)))) (ai:= .z) (by decide) rfl E e (zt j.1 (zs j.2)) trivial x y λD G M hh g4 g5 k4 C A=> ?_;exact fin D _ _ (.mk M (aL+1+1+2) 18 0 1 (.k (.mk l (aL+1+1) 33 0 0 (.e (.mk f (aL+1) 10 0 0 .z))) (.mk G (aL+1+1+1) 71 0 0 .z) (.no .z))) false C (((k1.trans k2).trans k3).trans k4) A (Tp (zt w2.2 (zs g3)) (zt j.2 (zs g4)) g5)
   rfl (oU _) rfl (λQ=>rfl) (by simp [dK,T.jE,kU,T.a]) (bI rfl) (bI rfl)
 .apply zO rfl rfl;apply qe rfl rfl;dsimp only [ah];dsimp only [vS,vE,vL,aa,big,bM,cF,cA,cB,cY,mD];refine⟨by decide,bR (lo:=lo) (ai:= .z) rfl b1 e (zt J (zf l1)) trivial y λH f g2 k2 b2 u=> ?_⟩;have l2:=k2.len;have w2:=u.bd f cW;apply cj rfl;dsimp only [ah];dsimp only [vS,vE,vL,ao,ay,big,bM,cF,cV,cY,gT,BP];refine⟨by decide,jK (lo:=lo) (ai:= .e (.mk f (aL+1) 10 0 0 .z)) (by decide) rfl b2 e (zt w2.1 (zs w2.2)) ⟨u,trivial⟩ y λN l hh g3 k3 E x=> ?_⟩;have l3:=k3.len;have j:=x.bd l cW;refine⟨by decide,?_⟩;refine tM (lo:=lo) (c:=(.mk l (aL+1+1) 16 0 2 (.e (.mk f (aL+1) 10 0 0 .z)))) (ai:= .z) (by decide) rfl E e (zt j.1 (zs j.2)) trivial x (z2 _) λD G M a1 g4 g5 k4 C A=> ?_;exact fin D _ _ (.mk M (aL+1+1+2) 18 0 2 (.k (.mk l (aL+1+1) 16 0 2 (.e (.mk f (aL+1) 10 0 0 .z))) (.mk G (aL+1+1+1) 71 0 0 .z) (.no .z))) false (by rw [fW]at C;exact C) (((k1.trans k2).trans k3).trans k4) A (Tp (zt w2.2 (zs g3)) (zt j.2 (zs g4)) g5)
   rfl (by simp [core,T.bF,TL.bF,TL.fy,TL.dY,e0,e1,e2];exact List.Perm.swap _ _ _) rfl (λQ=>rfl) (by simp [dK,T.jE,kU,T.a]) (bI rfl) (bI rfl)
 .apply zO rfl rfl;apply qe rfl rfl;dsimp only [ah];dsimp only [vS,vE,vL,aa,big,bM,cF,cA,cB,cY,mD];refine⟨by decide,bR (lo:=lo) (ai:= .z) rfl b1 e (zt J (zf l1)) trivial y λH f g2 k2 b2 u=> ?_⟩;have l2:=k2.len;have w2:=u.bd f cW;apply Cv rfl rfl;dsimp only [ah];dsimp only [cL,fQ,cy,aa,big,cA,cB,cY];refine⟨by decide,?_⟩;apply cj rfl;have B2:=b2.app [.list []];have K2:aC (M0 L) H (H++ [.list []]):=aC.app _ _;dsimp only [ah];simp only [cL,bq,bV,jh,jH,aa,bM,cF,cA,cB,B2.vM,B2.marks,EG,bN];refine⟨by decide,?_⟩;dsimp only [ah];dsimp only [vS,vE,vL,aa,big,bM,cF,cA,cB,cV,cY,mD,jR];refine⟨by decide,bR (lo:=lo) (ai:= .z) rfl B2 e (by simp;exact dP (zt w2.1 (zs w2.2))) trivial y λN l g3 k3 E x=> ?_⟩;have l3:=k3.len;simp only [cC,cV,cY]at l3 g3;have j:=x.bd l cW;refine⟨by decide,?_⟩;refine tM (lo:=lo) (c:=(.mk l (aL+1+1) 10 0 0 .z)) (ai:= .z) (by decide) rfl E e (zt j.1 (zs j.2)) trivial x y λD G M hh g4 g5 k4 C A=> ?_;have l4:=k4.len;have Y:=A.bd;refine⟨by decide,?_⟩;dsimp only [ah];dsimp only [vS,vE,vL,aa,bM,cF,rU];refine dG (C.app _) (by simp;exact zt (za U 1) (zr 99999)) λs5 b5 k5=> ?_;have l5:=k5.len;dsimp only [au,aa,ah];dsimp only [vS,vE,vL,ao,ay,bM,cF,jR];have e5:=k5.keep D.length _ (mw e o _ (zt (zt j.1 (zs j.2)) l4) (bP _)) aD rfl;have b7:=aJ e5;refine yH (lo:=lo) (q:=D.length) (c:=(.mk f (aL+1) 10 0 0 .z)) (ai:= .e (.mk M (aL+1+1+2) 18 0 1 (.k (.mk l (aL+1+1) 10 0 0 .z) (.mk G (aL+1+1+1) 71 0 0 .z) (.no .z)))) b5 e (zt (zt j.1 (zs j.2)) l4) (by rw [e5];exact rfl) ⟨(A.up o e (aC.app _ _)).up o e k5,trivial⟩ ((((u.up o e K2).up o e k3).up o e k4).up o e ((aC.app _ _).trans k5)) (by decide) (by simp;exact zt (za U 1) (zr 99999)) λs6 a6 a7 a1 g6 g7 k6 b6 r6=> ?_;have d4:=Y G (by simp [T.aU,TL.aU,TL.cX,TL.cG]);have b0:=Y M (.head _);simp only [cC,cV,cY]at l5;exact fin s6 _ _ (.mk a7 (aL+1+1+2+2) 18 0 1 (.k (.mk f (aL+1) 10 0 0 .z) (.mk a6 (aL+1+1+2+1) 71 0 0 (.e (.mk M (aL+1+1+2) 18 0 1 (.k (.mk l (aL+1+1) 10 0 0 .z) (.mk G (aL+1+1+1) 71 0 0 .z) (.no .z))))) (.no .z))) false (by rw [MC,if_neg (by decide),fW]at b6;exact b6) ((((((k1.trans k2).trans K2).trans k3).trans k4).trans (aC.app _ _)).trans (k5.trans k6)) r6 (T9 (zt w2.2 (zt (zr 1) (zs g3))) (zt j.2 (zs g4)) g5 (zt (zt b0.2 (zs b7)) g6) g7)
   rfl (by simp [core,T.bF,TL.bF,TL.fy,TL.dY,e0,e1,e2,eX];exact List.Perm.swap _ _ _) rfl (λQ=>rfl) (by simp [dK,T.jE,T.a,eX];exact zg (zt (zt (zt b0.2 (zs b7)) g6) (zs g7))) (bI rfl) (bI rfl)
 .apply cj rfl;dsimp only [ah];dsimp only [vS,vE,vL,ao,ay,big,bM,cF,cV,cY,wm,xj];refine⟨by decide,?_⟩;refine jK (lo:=lo) (ai:= .no .z) (by decide) rfl b1 e (zt J (zf l1)) trivial y λH a hh g2 k2 b2 u=> ?_;exact fin H _ _ (.mk a (aL+1) 52 0 3 (.no .z)) true b2 (k1.trans k2) u R9
   rfl (oU _) rfl (λq=>by cases q) (by simp [dK,T.kind]) (bI rfl) (bI rfl)
 .apply qe rfl rfl;apply cj rfl;dsimp only [ah];dsimp only [vS,vE,vL,aa,big,bM,cF,cA,cB,cV,cY,BI];refine eB b1 e (zt J (zf l1)) y λH f g2 k2 b2 u=> ?_;have l2:=k2.len;have w2:=u.bd f cW;refine⟨by decide,bR (lo:=lo) (ai:= .z) rfl b2 e (zt w2.1 (zs w2.2)) trivial y λN l g3 k3 E x=> ?_⟩;have l3:=k3.len;have j:=x.bd l cW;refine⟨by decide,?_⟩;dsimp only [ah];dsimp only [vS,vE,vL,ao,ay,bM,cF,Bt,gT];refine jK (lo:=lo) (ai:= .d (.mk f (aL+1) 8 0 0 .z) (.mk l (aL+1+1) 1 0 0 .z)) (by decide) rfl E e (zt j.1 (zs j.2)) ⟨u.up o e k3,x,trivial⟩ y λD a hh g4 k4 C A=> ?_;exact fin D _ _ (.mk a (aL+1+1+1) 25 0 2 (.d (.mk f (aL+1) 8 0 0 .z) (.mk l (aL+1+1) 1 0 0 .z))) false C (((k1.trans k2).trans k3).trans k4) A (To (zt w2.2 (zs g3)) (zt j.2 (zs g4)))
   rfl (oU _) rfl (λQ=>rfl) (by simp [dK,T.jE,kU,T.a]) (bI rfl) (bI rfl)
 .apply Cv rfl rfl;apply cj rfl;dsimp only [ah];dsimp only [vS,vE,vL,ao,ay,big,bM,cF,cV,cY,Bu,gT];refine eB b1 e (zt J (zf l1)) y λH f g2 k2 b2 u=> ?_;have l2:=k2.len;have w2:=u.bd f cW;refine⟨by decide,?_⟩;refine jK (lo:=lo) (ai:= .e (.mk f (aL+1) 8 0 0 .z)) (by decide) rfl b2 e (zt w2.1 (zs w2.2)) ⟨u,trivial⟩ y λD a hh g4 k4 C A=> ?_;exact fin D _ _ (.mk a (aL+1+1) 22 0 2 (.e (.mk f (aL+1) 8 0 0 .z))) false C ((k1.trans k2).trans k4) A (Rd (zt w2.2 (zs g4)))
   rfl (oU _) rfl (λQ=>rfl) (by simp [dK,T.jE,kU,T.a]) (bI rfl) (bI rfl)
 .apply Cv rfl rfl;apply qe rfl rfl;apply cj rfl;dsimp only [ah];dsimp only [vS,vE,vL,aa,big,bM,cF,cA,cB,cV,cY,gT,BP];refine eB b1 e (zt J (zf l1)) y λH f g2 k2 b2 u=> ?_;have l2:=k2.len;have w2:=u.bd f cW;refine⟨by decide,?_⟩;refine jK (lo:=lo) (ai:= .e (.mk f (aL+1) 8 0 0 .z)) (by decide) rfl b2 e (zt w2.1 (zs w2.2)) ⟨u,trivial⟩ y λN l hh g3 k3 E x=> ?_;have l3:=k3.len;have j:=x.bd l cW;dsimp only [ah];dsimp only [vS,vE,vL,ao,ay,big,bM,cF,cV,cY,Bv,gT];refine⟨by decide,?_⟩;refine jK (lo:=lo) (ai:= .e (.mk l (aL+1+1) 16 0 2 (.e (.mk f (aL+1) 8 0 0 .z)))) (by decide) rfl E e (zt j.1 (zs j.2)) ⟨x,trivial⟩ (z2 _) λD a a1 g4 k4 C A=> ?_;exact fin D _ _ (.mk a (aL+1+1+1) 21 0 2 (.e (.mk l (aL+1+1) 16 0 2 (.e (.mk f (aL+1) 8 0 0 .z))))) false (by rw [fW]at C;exact C) (((k1.trans k2).trans k3).trans k4) A (P_ (zt w2.2 (zs g3)) (zt j.2 (zs g4)))
   rfl (by simp [core,T.bF,TL.bF,TL.dY,e0,e1,e2];exact List.Perm.swap _ _ _) rfl (λQ=>rfl) (by simp [dK,T.jE,kU,T.a]) (bI rfl) (bI rfl)
 .apply zO rfl rfl;apply cj rfl;dsimp only [ah];dsimp only [vS,vE,vL,aa,big,bM,cF,cA,cB,cV,cY,xh,Jt];refine⟨by decide,?_⟩;refine jK (lo:=lo) (ai:= .z) (by decide) rfl b1 e (zt J (zf l1)) trivial y λH f hh g2 k2 b2 u=> ?_;have l2:=k2.len;have w2:=u.bd f cW;refine⟨by decide,?_⟩;refine tC (lo:=lo) (ai:= .e (.mk f (aL+1) 9 0 4 .z)) rfl b2 e (zt w2.1 (zs w2.2)) ⟨u,trivial⟩ (z2 _) λN l g3 k3 E x=> ?_;have l3:=k3.len;have j:=x.bd l cW;dsimp only [ah];dsimp only [vS,vE,vL,ao,ay,big,bM,cF,cV,cY,gT,Ju];refine eB E e (zt j.1 (zs j.2)) (z2 _) λD G g4 k4 C A=> ?_;have l4:=k4.len;have Y:=A.bd G cW;refine⟨by decide,?_⟩;refine jK (lo:=lo) (ai:= .k (.mk G (aL+1+1+1) 8 0 0 .z) (.mk l (aL+1+1) 71 0 0 (.e (.mk f (aL+1) 9 0 4 .z))) (.no .z)) (by decide) rfl C e (zt Y.1 (zs Y.2)) ⟨A,x.up o e k4,trivial⟩ (z2 _) λs5 a a1 g5 k5 b5 r5=> ?_;exact fin s5 _ _ (.mk a (aL+1+1+1+1) 19 0 2 (.k (.mk G (aL+1+1+1) 8 0 0 .z) (.mk l (aL+1+1) 71 0 0 (.e (.mk f (aL+1) 9 0 4 .z))) (.no .z))) false (by rw [fW]at b5;exact b5) ((((k1.trans k2).trans k3).trans k4).trans k5) r5 (Sa (zt w2.2 (zs g3)) (zt j.2 g4) (zt Y.2 (zs g5)))
   rfl (by simp [core,T.bF,TL.bF,TL.fy,TL.dY,e0,e1,e2];exact List.Perm.swap _ _ _) rfl (λQ=>rfl) (by simp [dK,T.jE,kU,T.a]) (bI rfl) (bI rfl)
end
@[elab_as_elim] def Ge{P:Int->Prop}(v:Int)(a:0<=v)(h:v<13)(k0:P 0)(k1:P 1)(k2:P 2)(k3:P 3)(k4:P 4)(k5:P 5)(k6:P 6)(k7:P 7)(k8:P 8)(k9:P 9)(LN:P 10)(QY:P 11)(zS:P 12):P v:=cs 12 h zS λh=>cs 11 h QY λh=>cs 10 h LN λh=>cs 9 h k9 λh=>cs 8 h k8 λh=>cs 7 h k7 λh=>cs 6 h k6 λh=>cs 5 h k5 λh=>cs 4 h k4 λh=>cs 3 h k3 λh=>cs 2 h k2 λh=>cs 1 h k1 λh=>cs 0 h k0 λh=>c0 a h
@[elab_as_elim] def Gf{P:Int->Prop}(v:Int)(a:0<=v)(h:v<10)(k0:P 0)(k1:P 1)(k2:P 2)(k3:P 3)(k4:P 4)(k5:P 5)(k6:P 6)(k7:P 7)(k8:P 8)(k9:P 9):P v:=cs 9 h k9 λh=>cs 8 h k8 λh=>cs 7 h k7 λh=>cs 6 h k6 λh=>cs 5 h k5 λh=>cs 4 h k4 λh=>cs 3 h k3 λh=>cs 2 h k2 λh=>cs 1 h k1 λh=>cs 0 h k0 λh=>c0 a h
def Ua:arrow 0=false:=by decide
def Ub:arrow 4=true:=by decide
def Sb:arrow 12=true:=by decide
def Sd:arrow 16=false:=by decide
def Se:arrow 32=false:=by decide
def Qa:arrow 256=false:=by decide
def Jv(es:List Mk)(e1 e2:LX)(n:Nat):Bool:=es.all (λe=>e.sort != 1&& !e.row)&&Nat.ble es.length 2&&(e1.atoms==1&&(e2.atoms==1&&(e1.ones.isPerm (List.range es.length)&&(e2.ones.isPerm (List.range n)&&Nat.ble n 6))))
def dI.nl{L:Lay}{c:Int}{a b:List Mk}{st:St}(B:dI L c (a++b) st):dI L c (a++(b++ [])) st:=(fK b).symm▸B
def Dp{a:Type}(d:a)(l:List a):(List.range l.length).map (λi=>l.getD i d)=l:=by
 refine List.ext_getElem (by simp) λi c b=> ?_;simp [List.getD,b]
def Piece.lg{st st':St}{K:KV}{L:Lay}{n:Int}{ms0 ms:List Mk}{lo:Nat}{t m:T}{o j:Bool}(P:Piece lo st ms t o)
  (h:∀st' n p m j,dI L n (ms0++p) st'->aC (M0 L) st st'->Piece lo st' p m j->p.length<=ms.length+2->m.ids.length<=t.ids.length+6->K (.tup [.ref m.a,.bool j]) st')
  (D:∀x ∈ t.ids,x<st.length) (x y z r:Bool) (es:List Mk) (e1 e2:LX) {bs:List Nat} (G:asc st.length bs) (b:dI L n (ms0++(ms.map (eX x y z r)++es)) st') (k:aC (M0 L) st st') (rep:Rep lo st'.length zn st' m)
  (s:m.aP true true true=e1.den (λi=>(es.map core).getD i (0,0,0,false,false,false)) (t.aP x y z)) (i:m.ids=e2.den (λi=>bs.getD i 0) t.ids) (g:m.aG=true) (c:Jv es e1 e2 bs.length=true)
  (J:(t.aP x y z).filter fY=[]) (M:(es.map core).filter fY=[]) (u:m.dZ=[]) (top:(r=true/\∀a,dK j m a=dK o t a)\/(r=false/\∀a ∈ t.ids,dK j m a=false)):K (.tup [.ref m.a,.bool j]) st':=by
 unfold Jv at c;simp only [cM,Dq,List.isPerm_iff,beq_iff_eq]at c;obtain ⟨⟨C,E⟩,H,w,I,v,A⟩:=c;have pm:(m.aP true true true).Perm (t.aP x y z++es.map core):=by
  have:=LX.perm (f:=λi=>(es.map core).getD i (0,0,0,false,false,false)) (l:=t.aP x y z) H I;rw [s];refine this.trans ?_;rw [<-bN (f:=core),Dp]
 refine h st' n _ m j b k (P.wrap rep (i▸LX.nd w v rfl G D P.nd) g pm (λe q=> ?_) (tL J pm M u) (λN=>u) top) (by rw [cC,bN];exact C3 (bI E) _) (i▸LX.len w (by rw [v.length_eq,List.length_range];exact bI A));have:=C e q;simp at this;exact this
def Piece.Gg{st st':St}{K:KV}{L:Lay}{f:Int}{ms0 ms:List Mk}{lo:Nat}{t e:T}{m:Bool}(P:Piece lo st ms t m)
  (h:∀st' f l e j,dI L f (ms0++l) st'->aC (M0 L) st st'->Piece lo st' l e j->l.length<=ms.length+2->e.ids.length<=t.ids.length+6->K (.tup [.ref e.a,.bool j]) st')
  (C:∀x ∈ t.ids,x<st.length) (e1 e2 n:LX) {bs:List Nat} (D:asc st.length bs) (b:dI L f (ms0++(ms.map (eX true true true false)++ [])) st') (k:aC (M0 L) st st') (rep:Rep lo st'.length zn st' e)
  (s:e.aP true true true=e1.den (λo=>(0,0,0,false,false,false)) (t.aP true true true)) (i:e.ids=e2.den (λi=>bs.getD i 0) t.ids) (g:e.aG=true) (c:Jv [] e1 e2 bs.length=true)
  (q:e.dZ=n.den (λo=>0) t.dZ) (y:n.atoms=1) (z:n.ones=[]) (top:∀a ∈ t.ids,dK true e a=false):K (.tup [.ref e.a,.bool true]) st':=by
 unfold Jv at c;simp only [cM,List.isPerm_iff,beq_iff_eq]at c;obtain ⟨_,p,w,u,v,A⟩:=c;have pm:(e.aP true true true).Perm (t.aP true true true++([]:List Mk).map core):=s▸LX.perm p u;exact h st' f _ e true b k (P.wrap rep (i▸LX.nd w v rfl D C P.nd) g pm (λo h=>nomatch h) (Gd P.ret s p u.eq_nil q y z) (λq=>Bool.noConfusion q) (.inr ⟨rfl,top⟩)) (by rw [cC,bN];exact C3 (gP 2) _) (i▸LX.len w (by rw [v.length_eq,List.length_range];exact bI A))
section
variable{d:Nat}{st st':St}{K:KV}{L:Lay}{aL:Int}{ms0 ms:List Mk}{lo:Nat}{t:T}
def Gh(B:dI L aL (ms0++ms) st)(j:L.b<lo)(P:Piece lo st ms t false)(G:ms0.length+ms.length<800000)
  (h:∀st' c1 c6 U C,dI L c1 (ms0++c6) st'->aC (M0 L) st st'->Piece lo st' c6 U C->c6.length<=ms.length+2->U.ids.length<=t.ids.length+6->K (.tup [.ref U.a,.bool C]) st'):aq (d+6) 49 [.ref L.p,.ref L.b,.int ms0.length,.ref t.a] st K:=by
 refine call_in Qc [some (.ref L.p),some (.ref L.b),some (.int ms0.length),some (.ref t.a),none,none,none,none,none,none] ?_ (by decide) rfl rfl rfl;refine fH B (by decide) λv s1 h0 h9 b1 k1 l1=> ?_;have o:=B.ord;have J:∀x ∈ t.ids,x<st.length:=λx hx=>(P.rep.bd x hx).2;have ll:lo<=st.length:=by
  have:=P.rep.bd t.a (by cases t;exact(.head _));exact zt this.1 (zs this.2)
 have N:=P.rep.up o j k1;have z1:(ms0++ms).length<900000:=by simp;exact zt G (zr 100000)
 have zf:∀x y z r,(ms0++ms.map (eX x y z r)).length<900000:=λx y z r=>by simp;exact zt G (zr 100000)
 have zg:∀x y z r m,(ms0++ms.map (eX x y z r)++ [m]).length<900000:=λx y z r m=>by simp;exact bK λzz=>bx (fL _ _) (AN (AN (AN aE aI) aA) (.num 900000)) (AN (.num 800000) (AN aE (AN aI aA))) (aH G zz) rfl
 have fin:∀(x y z r:Bool) (st':St) (c1:Int) (es:List Mk) (U:T) (C:Bool),dI L c1 (ms0++(ms.map (eX x y z r)++es)) st'->aC (M0 L) st st'->Rep lo st'.length zn st' U->U.ids.Nodup->U.aG=true->(U.aP true true true).Perm (t.aP x y z++es.map core)->
   (∀e ∈ es,e.sort≠1/\e.row=false)->U.dZ=((U.aP true true true).filter fY).map (·.1)->(C=false->U.dZ=[])->((r=true/\∀a,dK C U a=dK false t a)\/(r=false/\∀a ∈ t.ids,dK C U a=false))->es.length<=2->U.ids.length<=t.ids.length+6->K (.tup [.ref U.a,.bool C]) st':=
  λx y z r st' c1 es U C b k rep n g p e1 e2 e3 e4 e5 e6=>h st' c1 _ U C b k (P.wrap rep n g p e1 e2 e3 e4) (by simp;exact e5) e6
 have a0:=P.F8 rfl;have A:(t.aP true true true).filter fY=[]:=by
  have:=P.ret;rw [a0]at this;simpa using this.symm
 refine Ge v h0 h9 ?_ ?_ ?_ ?_ ?_ ?_ ?_ ?_ ?_ ?_ ?_ ?_ ?_
 .apply mu rfl rfl;dsimp only [ah];dsimp only [vS,vE,vL,aa,bM,cF,cA,cB,rU];refine dG b1 (zt G (zr 100000)) λs2 b2 k2=> ?_;have l2:=k2.len;have E:=N.up o j k2;dsimp only [ah];dsimp only [vS,vE,vL,jO,binI,two,fR,j5,b_,ao,ay,big,bM,cF,cV,cY,vX,rO];refine⟨⟨by decide,by decide⟩,by decide,by decide,?_⟩;dsimp only [Int.reduceDiv,Int.reduceToNat,bM,Int.reduceBEq];refine⟨by decide,bR (lo:=lo) (ai:= .e t) (dw _) b2 j (zt (zt ll (ze l1.symm)) l2) ⟨E,trivial⟩ (zf _ _ _ _) λY a g3 k3 I D=> ?_⟩;have l:asc st.length [a]:=⟨(zt (zt (ze l1.symm) l2) (zs g3)),trivial⟩;exact P.lg h J true true true true [] (.p .z (.p .m .z)) (.p (.o 0) (.p .m .z)) l I.nl ((k1.trans k2).trans k3) D rfl rfl (by dsimp only [T.aG,TL.aG];rw [P.aG];rfl) rfl (dR A) rfl (LX.gY (e:=(.p .m .z)) (f:=λi=>[a].getD i 0) rfl a0) (.inl ⟨rfl,λzz=>rfl⟩)
 .apply cI rfl rfl;apply zO rfl rfl;refine dG b1 (zt G (zr 100000)) λs2 b2 k2=> ?_;have l2:=k2.len;have E:=N.up o j k2;apply cj rfl;dsimp only [ah];dsimp only [vS,vE,vL,ao,ay,big,bM,cF,cA,cB,cV,cY,gT];refine eB b2 j (zt (zt ll (ze l1.symm)) l2) (zf _ _ _ _) λY u g3 k3 I D=> ?_;have l3:=k3.len;have w:=D.bd u (.head _);refine⟨by decide,tM (lo:=lo) (c:=(.mk u (aL+1) 8 0 0 .z)) (ai:= .e t) (by decide) (dw _) I j (zt w.1 (zs w.2)) ⟨E.up o j k3,trivial⟩ D (zf _ _ _ _) λs4 H M hh g4 g5 k4 b4 r4=> ?_⟩;have l:asc st.length [u,H,M]:=⟨(zt (zt (ze l1.symm) l2) g3),(zt w.2 (zs g4)),g5,trivial⟩;exact P.lg h J true true true false [⟨hh,M,aL+1+2,2,true,true,true,2==1⟩] (.p (.o 0) (.p (.p .z .z) (.p (.p .z (.p .m .z)) .z))) (.p (.o 2) (.p (.p (.o 0) .z) (.p (.p (.o 1) (.p .m .z)) .z))) l (by rw [fW]at b4;exact b4) (((k1.trans k2).trans k3).trans k4) r4 rfl rfl (by dsimp only [T.aG,TL.aG];rw [P.aG];rfl) rfl (dR A) rfl (LX.gY (e:=(.p .z (.p (.p .m .z) .z))) (f:=λi=>[u,H,M].getD i 0) rfl a0) (.inr ⟨rfl,λb hb=>beq_false_of_ne λe=>eH l J (b:=M) (by simp) ((show M=b from e)▸hb)⟩)
 .apply cI rfl rfl;apply zO rfl rfl;refine dG b1 (zt G (zr 100000)) λs2 b2 k2=> ?_;have l2:=k2.len;have E:=N.up o j k2;apply qe rfl rfl;apply cj rfl;dsimp only [ah];dsimp only [vS,vE,vL,ao,ay,big,bM,cF,cA,cB,cV,cY,Jw];refine⟨by decide,bR (lo:=lo) (ai:= .e t) (dw _) b2 j (zt (zt ll (ze l1.symm)) l2) ⟨E,trivial⟩ (zf _ _ _ _) λY a g3 k3 I D=> ?_⟩;have l:asc st.length [a]:=⟨(zt (zt (ze l1.symm) l2) (zs g3)),trivial⟩;exact P.lg h J true true true false [] (.p .z (.p .m .z)) (.p (.o 0) (.p .m .z)) l I.nl ((k1.trans k2).trans k3) D rfl rfl (by dsimp only [T.aG,TL.aG];rw [P.aG];rfl) rfl (dR A) rfl (LX.gY (e:=(.p .m .z)) (f:=λi=>[a].getD i 0) rfl a0) (.inr ⟨rfl,λb hb=>beq_false_of_ne λe=>eH l J (b:=a) (.head _) ((show a=b from e)▸hb)⟩)
 .apply cI rfl rfl;apply zO rfl rfl;refine dG b1 (zt G (zr 100000)) λs2 b2 k2=> ?_;have l2:=k2.len;have E:=N.up o j k2;apply Cv rfl rfl;apply cj rfl;dsimp only [ah];dsimp only [vS,vE,vL,ao,ay,big,bM,cF,cA,cB,cV,cY,Jx];refine eB b2 j (zt (zt ll (ze l1.symm)) l2) (zf _ _ _ _) λY u g3 k3 I D=> ?_;have l3:=k3.len;have w:=D.bd u (.head _);refine⟨by decide,bR (lo:=lo) (ai:= .d (.mk u (aL+1) 8 0 0 .z) t) (dw _) I j (zt w.1 (zs w.2)) ⟨D,E.up o j k3,trivial⟩ (zf _ _ _ _) λs4 a g4 k4 b4 r4=> ?_⟩;have l:asc st.length [u,a]:=⟨(zt (zt (ze l1.symm) l2) g3),(zt w.2 (zs g4)),trivial⟩;exact P.lg h J true true true false [] (.p .z (.p (.p .z .z) (.p .m .z))) (.p (.o 1) (.p (.p (.o 0) .z) (.p .m .z))) l b4.nl (((k1.trans k2).trans k3).trans k4) r4 rfl rfl (by dsimp only [T.aG,TL.aG];rw [P.aG];rfl) rfl (dR A) rfl (LX.gY (e:=(.p .z (.p .m .z))) (f:=λi=>[u,a].getD i 0) rfl a0) (.inr ⟨rfl,λb hb=>beq_false_of_ne λe=>eH l J (b:=a) (.tail _ (.head _)) ((show a=b from e)▸hb)⟩)
 .apply cI rfl rfl;apply cj rfl;dsimp only [ah];dsimp only [vS,vE,vL,jO,binI,two,fR,ao,ay,big,bM,cF,cA,cB,cY,kH,Jy];refine⟨by decide,jo (lo:=lo) (q:=s1.length) (params:= .z) (body:=t) (ar:=true) (b1.app _) j (zt ll (ze l1.symm)) (by rw [aD];exact rfl) trivial (N.up o j (aC.app _ _)) (by decide) (zt G (bI rfl)) λs2 u H hh g1 g2 k2 b2 r2=> ?_⟩;simp only [cC,cV,cY]at g1;have l:asc st.length [u,H]:=⟨(zt (zt (ze l1.symm) (zr _)) g1),g2,trivial⟩;exact P.lg h J false true false false [⟨hh,H,aL+2,4,true,true,true,false⟩] (.p (.o 0) (.p (.p .z .z) (.p .m .z))) (.p (.o 1) (.p (.p (.o 0) .z) (.p .m .z))) l b2 (k1.trans ((aC.app _ _).trans k2)) r2 rfl rfl (by dsimp only [T.aG,TL.aG];rw [P.aG];rfl) rfl (dR A) rfl rfl (.inr ⟨rfl,λb hb=>beq_false_of_ne λe=>eH l J (b:=H) (.tail _ (.head _)) ((show H=b from e)▸hb)⟩)
 .apply cI rfl rfl;apply qe rfl rfl;apply cj rfl;dsimp only [ah];dsimp only [vS,vE,vL,aa,big,bM,cF,cA,cB,cV,cY,Bj];refine eB b1 j (zt ll (ze l1.symm)) z1 λs2 u g2 k2 b2 r2=> ?_;have l2:=k2.len;have w2:=r2.bd u (.head _);refine⟨by decide,bR (lo:=lo) (ai:= .c (.mk u (aL+1) 8 0 0 .z) (.no (.e t))) (dw _) b2 j (zt w2.1 (zs w2.2)) ⟨r2,N.up o j k2,trivial⟩ z1 λY H g3 k3 I D=> ?_⟩;have l3:=k3.len;have w:=D.bd H (.head _);dsimp only [ah];dsimp only [vS,vE,vL,jO,binI,two,fR,ao,ay,big,bM,cF,cV,cY,kH];have q3:aC (M0 L) Y (Y++ [O.list [V.ref H]]):=aC.app _ _;refine⟨by decide,by decide,jZ (lo:=lo) (ai:= .z) rfl (I.app _) j (by simp;exact dP (zt w.1 (zs w.2))) trivial z1 λs4 M g4 k4 b4 r4=> ?_⟩;have l4:=k4.len;have w4:=r4.bd M (.head _);simp only [cC,cV,cY]at g4 l4;refine fH b4 (by decide) λv s5 h0 h2 b5 k5 l5=> ?_;have q5:=(k4.trans k5).keep Y.length _ (mw j o _ (zt w.1 (zs w.2)) (bP _)) aD rfl;have rp:=(((D.up o j q3).up o j k4).up o j k5);have rb:=r4.up o j k5;rcases Uc h0 h2 with rfl |rfl
  .refine⟨by decide,?_⟩;refine jo (lo:=lo) (q:=Y.length) (params:= .e (.mk H (aL+1+1) 28 0 0 (.c (.mk u (aL+1) 8 0 0 .z) (.no (.e t))))) (body:= .mk M (aL+1+1+1) 59 0 0 .z) (ar:=false) b5 j (zt w.1 (zs w.2)) (by rw [q5];exact rfl) ⟨rp,trivial⟩ rb (by decide) (zt G (zr 100000)) λs6 Q a5 hh g6 g7 k6 b6 r6=> ?_;have l:asc st.length [u,H,M,Q,a5]:=⟨(zt (ze l1.symm) g2),(zt w2.2 (zs g3)),(zt (zt w.2 (zr _)) (zs g4)),(zt (zt w4.2 (ze l5.symm)) g6),g7,trivial⟩;exact P.lg h J false false false false [⟨hh,a5,aL+1+1+1+2,4,true,true,true,false⟩] (.p (.o 0) (.p (.p .z (.p (.p .z (.p (.p .z .z) (.p .m .z))) .z)) (.p (.p .z .z) .z))) (.p (.o 4) (.p (.p (.o 3) (.p (.p (.o 1) (.p (.p (.o 0) .z) (.p .m .z))) .z)) (.p (.p (.o 2) .z) .z))) l b6 ((((((k1.trans k2).trans k3).trans q3).trans k4).trans k5).trans k6) r6 rfl rfl (by dsimp only [T.aG,TL.aG];rw [P.aG];rfl) rfl (dR A) rfl rfl (.inr ⟨rfl,λb hb=>beq_false_of_ne λe=>eH l J (b:=a5) (by simp) ((show a5=b from e)▸hb)⟩)
  .refine⟨by decide,?_⟩;refine jo (lo:=lo) (q:=Y.length) (params:= .e (.mk H (aL+1+1) 28 0 0 (.c (.mk u (aL+1) 8 0 0 .z) (.no (.e t))))) (body:= .mk M (aL+1+1+1) 59 0 0 .z) (ar:=true) b5 j (zt w.1 (zs w.2)) (by rw [q5];exact rfl) ⟨rp,trivial⟩ rb (by decide) (zt G (zr 100000)) λs6 Q a5 hh g6 g7 k6 b6 r6=> ?_;have l:asc st.length [u,H,M,Q,a5]:=⟨(zt (ze l1.symm) g2),(zt w2.2 (zs g3)),(zt (zt w.2 (zr _)) (zs g4)),(zt (zt w4.2 (ze l5.symm)) g6),g7,trivial⟩;exact P.lg h J false true false false [⟨hh,a5,aL+1+1+1+2,4,true,true,true,false⟩] (.p (.o 0) (.p (.p .z (.p (.p .z (.p (.p .z .z) (.p .m .z))) .z)) (.p (.p .z .z) .z))) (.p (.o 4) (.p (.p (.o 3) (.p (.p (.o 1) (.p (.p (.o 0) .z) (.p .m .z))) .z)) (.p (.p (.o 2) .z) .z))) l b6 ((((((k1.trans k2).trans k3).trans q3).trans k4).trans k5).trans k6) r6 rfl rfl (by dsimp only [T.aG,TL.aG];rw [P.aG];rfl) rfl (dR A) rfl rfl (.inr ⟨rfl,λb hb=>beq_false_of_ne λe=>eH l J (b:=a5) (by simp) ((show a5=b from e)▸hb)⟩)
 .apply cI rfl rfl;apply Cv rfl rfl;apply cj rfl;dsimp only [ah];dsimp only [vS,vE,vL,jO,binI,two,fR,aa,big,bM,cF,cA,cB,cV,cY,wV,wU];refine⟨by decide,fH (b1.app _) (by decide) λv s2 h0 h2 b2 k2 l2=> ?_⟩;simp only [cC,cV,cY]at l2;have q1:aC (M0 L) s1 (s1++ [O.list [V.none,V.ref t.a]]):=aC.app _ _;have q2:=k2.keep s1.length _ (mw j o _ (zt ll (ze l1.symm)) (bP _)) aD rfl;refine⟨⟨by decide,(Dd (Int.not_le.mp λzz=>dJ (fP _) (AI jb bH) (AI bH (.num (-9223372036854775808))) (bE h0 zz) rfl) (Int.not_le.mp λzz=>dJ (fP _) (AI (AI bH ck) (.num 9223372036854775808)) (AI (.num 2) bH) (bE h2 zz) rfl))⟩,iK (lo:=lo) (q:=s1.length) (ai:= .no (.e t)) b2 j (zt ll (ze l1.symm)) (by rw [q2];exact rfl) ⟨(N.up o j q1).up o j k2,trivial⟩ (by decide) z1 λY u hh g3 k3 I D=> ?_⟩;have l3:=k3.len;have w:=D.bd u (.head _);rw [if_pos rfl,fK]at I;dsimp only [ah];dsimp only [vS,vE,vL,ao,ay,big,bM,cF,cV,cY];refine⟨by decide,pL (lo:=lo) (q:=Y.length) (base:=none) (members:= .e (.mk u (aL+1) 62 (262144*v) 0 (.no (.e t)))) (I.app _) j (zt w.1 (zs w.2)) (by rw [aD];exact rfl) ⟨D.up o j (aC.app _ _),trivial⟩ (λt q=>by cases q) (zt G (zr 100000)) λs4 H M Q c9 g4 g5 g6 k4 b4 r4=> ?_⟩;simp only [cC,cV,cY]at g4;have l:asc st.length [u,H,M,Q]:=⟨(zt (zt (zt (ze l1.symm) (zr _)) (ze l2.symm)) g3),(zt (zt w.2 (zr _)) g4),g5,g6,trivial⟩;exact P.lg h J false false true false [⟨c9,Q,aL+1+3,4,true,true,true,false⟩] (.p (.o 0) (.p (.p .z .z) (.p (.p .z (.p (.p .z (.p .m .z)) .z)) .z))) (.p (.o 3) (.p (.p (.o 1) .z) (.p (.p (.o 2) (.p (.p (.o 0) (.p .m .z)) .z)) .z))) l b4 (((((k1.trans q1).trans k2).trans k3).trans (aC.app _ _)).trans k4) r4 rfl rfl (by dsimp only [oX,T.aG,TL.aG];rw [P.aG];rfl) rfl (dR A) rfl rfl (.inr ⟨rfl,λb hb=>beq_false_of_ne λe=>eH l J (b:=Q) (by simp) ((show Q=b from e)▸hb)⟩)
 .apply cI rfl rfl;apply Cv rfl rfl;apply qe rfl rfl;apply cj rfl;dsimp only [ah];dsimp only [vS,vE,vL,ao,ay,big,bM,cF,cA,cB,cY];refine⟨by decide,pL (lo:=lo) (q:=s1.length) (base:=some t) (members:= .z) (b1.app _) j (zt ll (ze l1.symm)) (by rw [aD];exact rfl) trivial (λU q=>by cases q;exact N.up o j (aC.app _ _)) (zt G (bI rfl)) λs4 H M Q c9 g4 g5 g6 k4 b4 r4=> ?_⟩;simp only [cC,cV,cY]at g4;have l:asc st.length [H,M,Q]:=⟨(zt (zt (ze l1.symm) (zr _)) g4),g5,g6,trivial⟩;exact P.lg h J false false true false [⟨c9,Q,aL+3,4,true,true,true,false⟩] (.p (.o 0) (.p .m (.p (.p .z .z) (.p (.p .z .z) .z)))) (.p (.o 2) (.p .m (.p (.p (.o 0) .z) (.p (.p (.o 1) .z) .z)))) l b4 ((k1.trans (aC.app _ _)).trans k4) r4 rfl rfl (by dsimp only [oX,T.aG,TL.aG];rw [P.aG];rfl) rfl (dR A) rfl rfl (.inr ⟨rfl,λb hb=>beq_false_of_ne λe=>eH l J (b:=Q) (by simp) ((show Q=b from e)▸hb)⟩)
 .apply mu rfl rfl;dsimp only [ah];dsimp only [vS,vE,vL,aa,bM,cF,cA,cB,rU];refine dG b1 (zt G (zr 100000)) λs2 b2 k2=> ?_;have l2:=k2.len;have E:=N.up o j k2;dsimp only [ah];dsimp only [vS,vE,vL,jO,binI,two,fR,j5,b_,ao,ay,big,bM,cF,cV,cY,vX,rO];refine⟨⟨by decide,by decide⟩,by decide,by decide,?_⟩;dsimp only [Int.reduceDiv,Int.reduceToNat,bM,cF,Int.reduceBEq];refine⟨by decide,bR (lo:=lo) (ai:= .e t) (dw _) b2 j (zt (zt ll (ze l1.symm)) l2) ⟨E,trivial⟩ (zf _ _ _ _) λY a g3 k3 I D=> ?_⟩;have l:asc st.length [a]:=⟨(zt (zt (ze l1.symm) l2) (zs g3)),trivial⟩;exact P.lg h J true true true true [] (.p .z (.p .m .z)) (.p (.o 0) (.p .m .z)) l I.nl ((k1.trans k2).trans k3) D rfl rfl (by dsimp only [T.aG,TL.aG];rw [P.aG];rfl) rfl (dR A) rfl (LX.gY (e:=(.p .m .z)) (f:=λi=>[a].getD i 0) rfl a0) (.inl ⟨rfl,λzz=>rfl⟩)
 .apply cI rfl rfl;apply zO rfl rfl;refine dG b1 (zt G (zr 100000)) λs2 b2 k2=> ?_;have l2:=k2.len;have E:=N.up o j k2;apply Cv rfl rfl;apply qe rfl rfl;apply cj rfl;dsimp only [ah];dsimp only [vS,vE,vL,ao,ay,big,bM,cF,cA,cB,cV,cY,wm,xj];refine⟨by decide,jK (lo:=lo) (ai:= .e t) (by decide) (dw _) b2 j (zt (zt ll (ze l1.symm)) l2) ⟨E,trivial⟩ (zf _ _ _ _) λY a hh g3 k3 I D=> ?_⟩;have l:asc st.length [a]:=⟨(zt (zt (ze l1.symm) l2) (zs g3)),trivial⟩;have pm:((.mk a (aL+1) 52 0 3 (.e t):T).aP true true true).Perm (t.aP true true true++([⟨hh,a,aL+1,3,true,true,true,3==1⟩]:List Mk).map core):=LX.perm (e:=(.p (.o 0) (.p .m .z))) (n:=1) (f:=λi=>(([⟨hh,a,aL+1,3,true,true,true,3==1⟩]:List Mk).map core).getD i (0,0,0,false,false,false)) rfl (by decide);exact fin true true true false Y _ [⟨hh,a,aL+1,3,true,true,true,3==1⟩] (.mk a (aL+1) 52 0 3 (.e t)) true (by rw [fW]at I;exact I) ((k1.trans k2).trans k3) D
    (LX.nd (e:=(.p (.o 0) (.p .m .z))) (bs:=[a]) (n:=1) rfl (by decide) rfl l J P.nd) (by dsimp only [T.aG,TL.aG];rw [P.aG];rfl) pm (λe h=>by cases List.mem_singleton.mp h;exact⟨show(3:Int)≠1 by decide,rfl⟩) (by simp [T.wK,e0,e1,e2,T.bF,TL.bF,TL.dY,fY,a0,A,T.Dm,Ua,Ub,Sb,Sd,Se,Qa]) (λq=>Bool.noConfusion q) (.inr ⟨rfl,λzz zz=>rfl⟩) (bI rfl) (LX.len (e:=(.p (.o 0) (.p .m .z))) (f:=λi=>[a].getD i 0) rfl (by decide))
 .apply cI rfl rfl;apply zO rfl rfl;refine dG b1 (zt G (zr 100000)) λs2 b2 k2=> ?_;have l2:=k2.len;have E:=N.up o j k2;apply zO rfl rfl;apply cj rfl;dsimp only [ah];dsimp only [vS,vE,vL,ao,ay,big,bM,cF,cA,cB,cV,cY,Jz];refine⟨by decide,bR (lo:=lo) (ai:= .e t) (dw _) b2 j (zt (zt ll (ze l1.symm)) l2) ⟨E,trivial⟩ (zf _ _ _ _) λY a g3 k3 I D=> ?_⟩;have l:asc st.length [a]:=⟨(zt (zt (ze l1.symm) l2) (zs g3)),trivial⟩;exact P.lg h J true true true false [] (.p .z (.p .m .z)) (.p (.o 0) (.p .m .z)) l I.nl ((k1.trans k2).trans k3) D rfl rfl (by dsimp only [T.aG,TL.aG];rw [P.aG];rfl) rfl (dR A) rfl (LX.gY (e:=(.p .m .z)) (f:=λi=>[a].getD i 0) rfl a0) (.inr ⟨rfl,λzz zz=>rfl⟩)
 .apply cI rfl rfl;apply zO rfl rfl;refine dG b1 (zt G (zr 100000)) λs2 b2 k2=> ?_;have l2:=k2.len;have E:=N.up o j k2;apply zO rfl rfl;apply qe rfl rfl;apply cj rfl;dsimp only [ah];dsimp only [vS,vE,vL,aa,big,bM,cF,cA,cB,cV,cY,kC];refine eB b2 j (zt (zt ll (ze l1.symm)) l2) (zf _ _ _ _) λY u g3 k3 I D=> ?_;have l3:=k3.len;have w:=D.bd u (.head _);refine⟨by decide,bR (lo:=lo) (ai:= .d (.mk u (aL+1) 8 0 0 .z) t) (dw _) I j (zt w.1 (zs w.2)) ⟨D,E.up o j k3,trivial⟩ (zf _ _ _ _) λs4 H g4 k4 b4 r4=> ?_⟩;have l4:=k4.len;have w4:=r4.bd H (.head _);dsimp only [ah];dsimp only [vS,vE,vL,aa,big,bM,cF,cA,cB,cV,cY,Bw,gT];refine⟨by decide,jK (lo:=lo) (ai:= .e (.mk H (aL+1+1) 36 0 0 (.d (.mk u (aL+1) 8 0 0 .z) t))) (by decide) (dw _) b4 j (zt w4.1 (zs w4.2)) ⟨r4,trivial⟩ (zf _ _ _ _) λs5 M hh g5 k5 b5 r5=> ?_⟩;have l5:=k5.len;have w5:=r5.bd M (.head _);dsimp only [ah];dsimp only [vS,vE,vL,aa,big,bM,cF,cA,cB,cV,cY,JA];refine eB b5 j (zt w5.1 (zs w5.2)) (zg _ _ _ _ _) λs6 Q g6 k6 b6 r6=> ?_;have l6:=k6.len;have w6:=r6.bd Q (.head _);refine⟨by decide,bR (lo:=lo) (ai:= .c (.mk M (aL+1+1+1) 34 0 2 (.e (.mk H (aL+1+1) 36 0 0 (.d (.mk u (aL+1) 8 0 0 .z) t)))) (.no (.e (.mk Q (aL+1+1+1+1) 8 0 0 .z)))) (dw _) b6 j (zt w6.1 (zs w6.2)) ⟨r5.up o j k6,r6,trivial⟩ (zg _ _ _ _ _) λs7 a5 g7 k7 b7 r7=> ?_⟩;have l7:=k7.len;have w7:=r7.bd a5 (.head _);dsimp only [ah];dsimp only [vS,vE,vL,ao,ay,big,bM,cF,cV,cY,JB];refine⟨by decide,bR (lo:=lo) (ai:= .e (.mk a5 (aL+1+1+1+1+1) 42 0 0 (.c (.mk M (aL+1+1+1) 34 0 2 (.e (.mk H (aL+1+1) 36 0 0 (.d (.mk u (aL+1) 8 0 0 .z) t)))) (.no (.e (.mk Q (aL+1+1+1+1) 8 0 0 .z)))))) (dw _) b7 j (zt w7.1 (zs w7.2)) ⟨r7,trivial⟩ (zg _ _ _ _ _) λs8 a6 g8 k8 b8 r8=> ?_⟩;have l:asc st.length [u,H,M,Q,a5,a6]:=⟨(zt (zt (ze l1.symm) l2) g3),(zt w.2 (zs g4)),(zt w4.2 (zs g5)),(zt w5.2 g6),(zt w6.2 (zs g7)),(zt w7.2 (zs g8)),trivial⟩;exact P.lg h J true true true false [⟨hh,M,aL+1+1+1,2,true,true,true,2==1⟩] (.p .z (.p (.p .z (.p (.p (.o 0) (.p (.p .z (.p (.p .z .z) (.p .m .z))) .z)) (.p (.p .z .z) .z))) .z)) (.p (.o 5) (.p (.p (.o 4) (.p (.p (.o 2) (.p (.p (.o 1) (.p (.p (.o 0) .z) (.p .m .z))) .z)) (.p (.p (.o 3) .z) .z))) .z)) l (by rw [fW]at b8;exact b8) (((((((k1.trans k2).trans k3).trans k4).trans k5).trans k6).trans k7).trans k8) r8 rfl rfl (by dsimp only [T.aG,TL.aG];rw [P.aG];rfl) rfl (dR A) rfl (LX.gY (e:=(.p (.p (.p (.p .z (.p .m .z)) .z) (.p .z .z)) .z)) (f:=λi=>[u,H,M,Q,a5,a6].getD i 0) rfl a0) (.inr ⟨rfl,λzz zz=>rfl⟩)
 .apply cI rfl rfl;apply zO rfl rfl;refine dG b1 (zt G (zr 100000)) λs2 b2 k2=> ?_;have l2:=k2.len;have E:=N.up o j k2;apply zO rfl rfl;apply Cv rfl rfl;dsimp only [ah];dsimp only [vS,vE,vL,ao,ay,big,bM,cF,cA,cB,cV,cY,gT,JC,JD];refine⟨by decide,jK (lo:=lo) (ai:= .e t) (by decide) (dw _) b2 j (zt (zt ll (ze l1.symm)) l2) ⟨E,trivial⟩ (zf _ _ _ _) λY u hh g3 k3 I D=> ?_⟩;have l3:=k3.len;have w:=D.bd u (.head _);refine⟨by decide,bR (lo:=lo) (ai:= .e (.mk u (aL+1) 15 0 2 (.e t))) (dw _) I j (zt w.1 (zs w.2)) ⟨D,trivial⟩ (zg _ _ _ _ _) λs4 a g4 k4 b4 r4=> ?_⟩;have l:asc st.length [u,a]:=⟨(zt (zt (ze l1.symm) l2) (zs g3)),(zt w.2 (zs g4)),trivial⟩;exact P.lg h J true true true false [⟨hh,u,aL+1,2,true,true,true,2==1⟩] (.p .z (.p (.p (.o 0) (.p .m .z)) .z)) (.p (.o 1) (.p (.p (.o 0) (.p .m .z)) .z)) l (by rw [fW]at b4;exact b4) (((k1.trans k2).trans k3).trans k4) r4 rfl rfl (by dsimp only [T.aG,TL.aG];rw [P.aG];rfl) rfl (dR A) rfl (LX.gY (e:=(.p (.p .m .z) .z)) (f:=λi=>[u,a].getD i 0) rfl a0) (.inr ⟨rfl,λb hb=>beq_false_of_ne λe=>eH l J (b:=a) (.tail _ (.head _)) ((show a=b from e)▸hb)⟩)
def Gi(B:dI L aL (ms0++ms) st)(c:L.b<lo)(P:Piece lo st ms t true)(w:ms0.length+ms.length<800000)
  (h:∀st' a8 c2 I j,dI L a8 (ms0++c2) st'->aC (M0 L) st st'->Piece lo st' c2 I j->c2.length<=ms.length+2->I.ids.length<=t.ids.length+6->K (.tup [.ref I.a,.bool j]) st'):aq (d+6) 50 [.ref L.p,.ref L.b,.int ms0.length,.ref t.a] st K:=by
 refine call_in Qd [some (.ref L.p),some (.ref L.b),some (.int ms0.length),some (.ref t.a),none,none,none] ?_ (by decide) rfl rfl rfl;refine fH B (by decide) λv E h0 h9 b1 k1 l1=> ?_;have o:=B.ord;have U:∀x ∈ t.ids,x<st.length:=λx hx=>(P.rep.bd x hx).2;have G:lo<=st.length:=by
  have:=P.rep.bd t.a (by cases t;exact(.head _));exact zt this.1 (zs this.2)
 have M:=P.rep.up o c k1;have z1:(ms0++ms).length<900000:=by simp;exact zt w (zr 100000)
 have zf:∀x y z r,(ms0++ms.map (eX x y z r)).length<900000:=λx y z r=>by simp;exact zt w (zr 100000)
 have zg:∀x y z r m,(ms0++ms.map (eX x y z r)++ [m]).length<900000:=λx y z r m=>by simp;exact bK λJ=>bx (fL _ _) (AN (AN (AN aE aI) aA) (.num 900000)) (AN (.num 800000) (AN aE (AN aI aA))) (aH w J) rfl
 have fin:∀(x y z r:Bool) (st':St) (a8:Int) (es:List Mk) (I:T) (j:Bool),dI L a8 (ms0++(ms.map (eX x y z r)++es)) st'->aC (M0 L) st st'->Rep lo st'.length zn st' I->I.ids.Nodup->I.aG=true->(I.aP true true true).Perm (t.aP x y z++es.map core)->
   (∀e ∈ es,e.sort≠1/\e.row=false)->I.dZ=((I.aP true true true).filter fY).map (·.1)->(j=false->I.dZ=[])->((r=true/\∀a,dK j I a=dK true t a)\/(r=false/\∀a ∈ t.ids,dK j I a=false))->es.length<=2->I.ids.length<=t.ids.length+6->K (.tup [.ref I.a,.bool j]) st':=
  λx y z r st' a8 es I j b k rep n g p e1 e2 e3 e4 e5 e6=>h st' a8 _ I j b k (P.wrap rep n g p e1 e2 e3 e4) (by simp;exact e5) e6
 have d5:=P.ret;refine Gf v h0 h9 ?_ ?_ ?_ ?_ ?_ ?_ ?_ ?_ ?_ ?_
 .apply qe rfl rfl;apply cI rfl rfl;apply cI rfl rfl;refine dG b1 (zt w (zr 100000)) λs2 b2 k2=> ?_;have l2:=k2.len;have N:=M.up o c k2;apply cj rfl;dsimp only [ah];dsimp only [vS,vE,vL,ao,ay,big,bM,cF,cA,cB,cV,cY];refine⟨by decide,jZ (lo:=lo) (ai:= .e t) (dw _) b2 c (zt (zt G (ze l1.symm)) l2) ⟨N,trivial⟩ (zf _ _ _ _) λs3 a g3 k3 H l=> ?_⟩;have A:asc st.length [a]:=⟨(zt (zt (ze l1.symm) l2) (zs g3)),trivial⟩;exact P.Gg h U (.p .z (.p .m .z)) (.p (.o 0) (.p .m .z)) (.p .m .z) A H.nl ((k1.trans k2).trans k3) l rfl rfl (by dsimp only [T.aG,TL.aG];rw [P.aG];rfl) rfl rfl rfl rfl λJ J=>rfl
 .apply qe rfl rfl;apply cI rfl rfl;apply cI rfl rfl;refine dG b1 (zt w (zr 100000)) λs2 b2 k2=> ?_;have l2:=k2.len;have N:=M.up o c k2;apply qe rfl rfl;apply cj rfl;dsimp only [ah];dsimp only [vS,vE,vL,ao,ay,big,bM,cF,cA,cB,cV,cY,JE];refine eB b2 c (zt (zt G (ze l1.symm)) l2) (zf _ _ _ _) λs3 f g3 k3 H l=> ?_;have l3:=k3.len;have D:=l.bd f (.head _);refine⟨by decide,bR (lo:=lo) (ai:= .k (.mk f (aL+1) 8 0 0 .z) t (.no .z)) (dw _) H c (zt D.1 (zs D.2)) ⟨l,N.up o c k3,trivial⟩ (zf _ _ _ _) λs4 a g4 k4 b4 r4=> ?_⟩;have A:asc st.length [f,a]:=⟨(zt (zt (ze l1.symm) l2) g3),(zt D.2 (zs g4)),trivial⟩;exact P.Gg h U (.p .z (.p (.p .z .z) (.p .m .z))) (.p (.o 1) (.p (.p (.o 0) .z) (.p .m .z))) (.p .z (.p .m .z)) A b4.nl (((k1.trans k2).trans k3).trans k4) r4 rfl rfl (by dsimp only [T.aG,TL.aG];rw [P.aG];rfl) rfl rfl rfl rfl λJ J=>rfl
 .apply qe rfl rfl;apply cI rfl rfl;apply cI rfl rfl;refine dG b1 (zt w (zr 100000)) λs2 b2 k2=> ?_;have l2:=k2.len;have N:=M.up o c k2;apply Cv rfl rfl;apply cj rfl;dsimp only [ah];dsimp only [vS,vE,vL,ao,ay,big,bM,cF,cA,cB,cV,cY,JF];refine eB b2 c (zt (zt G (ze l1.symm)) l2) (zf _ _ _ _) λs3 f g3 k3 H l=> ?_;have l3:=k3.len;have D:=l.bd f (.head _);refine⟨by decide,bR (lo:=lo) (ai:= .d (.mk f (aL+1) 8 0 0 .z) t) (dw _) H c (zt D.1 (zs D.2)) ⟨l,N.up o c k3,trivial⟩ (zf _ _ _ _) λs4 a g4 k4 b4 r4=> ?_⟩;have A:asc st.length [f,a]:=⟨(zt (zt (ze l1.symm) l2) g3),(zt D.2 (zs g4)),trivial⟩;exact P.Gg h U (.p .z (.p (.p .z .z) (.p .m .z))) (.p (.o 1) (.p (.p (.o 0) .z) (.p .m .z))) (.p .z (.p .m .z)) A b4.nl (((k1.trans k2).trans k3).trans k4) r4 rfl rfl (by dsimp only [T.aG,TL.aG];rw [P.aG];rfl) rfl rfl rfl rfl λJ J=>rfl
 .apply qe rfl rfl;apply cI rfl rfl;apply cI rfl rfl;refine dG b1 (zt w (zr 100000)) λs2 b2 k2=> ?_;have l2:=k2.len;have N:=M.up o c k2;apply Cv rfl rfl;apply qe rfl rfl;apply cj rfl;dsimp only [ah];dsimp only [vS,vE,vL,ao,ay,big,bM,cF,cA,cB,cV,cY,JG];refine⟨by decide,jZ (lo:=lo) (ai:= .z) rfl b2 c (zt (zt G (ze l1.symm)) l2) trivial (zf _ _ _ _) λs3 f g3 k3 H l=> ?_⟩;have l3:=k3.len;have D:=l.bd f (.head _);refine⟨by decide,jZ (lo:=lo) (ai:= .e t) (dw _) H c (zt D.1 (zs D.2)) ⟨N.up o c k3,trivial⟩ (zf _ _ _ _) λs4 C g4 k4 b4 r4=> ?_⟩;have l4:=k4.len;have w4:=r4.bd C (.head _);refine⟨by decide,bR (lo:=lo) (ai:= .c (.mk f (aL+1) 59 0 0 .z) (.no (.e (.mk C (aL+1+1) 59 0 0 (.e t))))) (dw _) b4 c (zt w4.1 (zs w4.2)) ⟨l.up o c k4,r4,trivial⟩ (zf _ _ _ _) λs5 a g5 k5 b5 r5=> ?_⟩;have A:asc st.length [f,C,a]:=⟨(zt (zt (ze l1.symm) l2) (zs g3)),(zt D.2 (zs g4)),(zt w4.2 (zs g5)),trivial⟩;exact P.Gg h U (.p .z (.p (.p .z .z) (.p (.p .z (.p .m .z)) .z))) (.p (.o 2) (.p (.p (.o 0) .z) (.p (.p (.o 1) (.p .m .z)) .z))) (.p .z (.p (.p .m .z) .z)) A b5.nl ((((k1.trans k2).trans k3).trans k4).trans k5) r5 rfl rfl (by dsimp only [T.aG,TL.aG];rw [P.aG];rfl) rfl rfl rfl rfl λJ J=>rfl
 .apply qe rfl rfl;apply cI rfl rfl;apply cI rfl rfl;refine dG b1 (zt w (zr 100000)) λs2 b2 k2=> ?_;have l2:=k2.len;have N:=M.up o c k2;apply zO rfl rfl;dsimp only [ah];dsimp only [vS,vE,vL,aa,big,bM,cF,cA,cB,cV,cY,JH];refine⟨by decide,bR (lo:=lo) (ai:= .no (.e t)) (dw _) b2 c (zt (zt G (ze l1.symm)) l2) ⟨N,trivial⟩ (zf _ _ _ _) λs3 f g3 k3 H l=> ?_⟩;have l3:=k3.len;have D:=l.bd f (.head _);dsimp only [ah];dsimp only [vS,vE,vL,ao,ay,big,bM,cF,cV,cY,JI];refine eB H c (zt D.1 (zs D.2)) (zf _ _ _ _) λs4 C g4 k4 b4 r4=> ?_;have l4:=k4.len;have w4:=r4.bd C (.head _);refine⟨by decide,bR (lo:=lo) (ai:= .d (.mk C (aL+1+1) 8 0 0 .z) (.mk f (aL+1) 51 0 0 (.no (.e t)))) (dw _) b4 c (zt w4.1 (zs w4.2)) ⟨r4,l.up o c k4,trivial⟩ (zf _ _ _ _) λs5 a g5 k5 b5 r5=> ?_⟩;have A:asc st.length [f,C,a]:=⟨(zt (zt (ze l1.symm) l2) (zs g3)),(zt D.2 g4),(zt w4.2 (zs g5)),trivial⟩;exact P.Gg h U (.p .z (.p (.p .z .z) (.p (.p .z (.p .m .z)) .z))) (.p (.o 2) (.p (.p (.o 1) .z) (.p (.p (.o 0) (.p .m .z)) .z))) (.p .z (.p (.p .m .z) .z)) A b5.nl ((((k1.trans k2).trans k3).trans k4).trans k5) r5 rfl rfl (by dsimp only [T.aG,TL.aG];rw [P.aG];rfl) rfl rfl rfl rfl λJ J=>rfl
 .apply cj rfl;dsimp only [ah];dsimp only [vS,vE,vL,ao,ay,big,bM,cF,cA,cB,cV,cY,kH];have Q:aC (M0 L) E (E++ [O.list []]):=aC.app _ _;refine⟨by decide,by decide,jZ (lo:=lo) (ai:= .e t) (dw _) (b1.app _) c (by simp;exact dP (zt G (ze l1.symm))) ⟨M.up o c Q,trivial⟩ z1 λs2 f g2 k2 b2 Y=> ?_⟩;have l2:=k2.len;have w2:=Y.bd f (.head _);simp only [cC,cV,cY]at g2 l2;have q2:=k2.keep E.length _ (mw c o _ (zt G (ze l1.symm)) (bP _)) aD rfl;refine jo (lo:=lo) (q:=E.length) (params:= .z) (body:= .mk f (aL+1) 59 0 0 (.e t)) (ar:=true) b2 c (zt G (ze l1.symm)) (by rw [q2];exact rfl) trivial Y (by decide) (zt w (bI rfl)) λs3 C u hh g3 g4 k3 H l=> ?_;have A:asc st.length [f,C,u]:=⟨(zt (zt (ze l1.symm) (zr _)) (zs g2)),(zt w2.2 g3),g4,trivial⟩;exact P.lg h U false true false false [⟨hh,u,aL+1+2,4,true,true,true,false⟩] (.p (.o 0) (.p (.p .z .z) (.p (.p .z (.p .m .z)) .z))) (.p (.o 2) (.p (.p (.o 1) .z) (.p (.p (.o 0) (.p .m .z)) .z))) A H (((k1.trans Q).trans k2).trans k3) l rfl rfl (by dsimp only [T.aG,TL.aG];rw [P.aG];rfl) rfl jw rfl rfl (.inr ⟨rfl,λb hb=>beq_false_of_ne λe=>eH A U (b:=u) (by simp) ((show u=b from e)▸hb)⟩)
 .apply qe rfl rfl;apply mu rfl rfl;dsimp only [ah];dsimp only [vS,vE,vL,two,fR,j5,b_,ao,ay,big,bM,cF,cA,cB,cV,cY,rR,bz];dsimp only [Int.reduceBEq];have Q:aC (M0 L) E (E++ [O.list []]):=aC.app _ _;refine⟨by decide,by decide,jZ (lo:=lo) (ai:= .e t) (dw _) (b1.app _) c (by simp;exact dP (zt G (ze l1.symm))) ⟨M.up o c Q,trivial⟩ z1 λs2 f g2 k2 b2 Y=> ?_⟩;have l2:=k2.len;have w2:=Y.bd f (.head _);simp only [cC,cV,cY]at g2 l2;have q2:=k2.keep E.length _ (mw c o _ (zt G (ze l1.symm)) (bP _)) aD rfl;refine jo (lo:=lo) (q:=E.length) (params:= .z) (body:= .mk f (aL+1) 59 0 0 (.e t)) (ar:=false) b2 c (zt G (ze l1.symm)) (by rw [q2];exact rfl) trivial Y (by decide) (zt w (bI rfl)) λs3 C u hh g3 g4 k3 H l=> ?_;have A:asc st.length [f,C,u]:=⟨(zt (zt (ze l1.symm) (zr _)) (zs g2)),(zt w2.2 g3),g4,trivial⟩;exact P.lg h U false false false false [⟨hh,u,aL+1+2,4,true,true,true,false⟩] (.p (.o 0) (.p (.p .z .z) (.p (.p .z (.p .m .z)) .z))) (.p (.o 2) (.p (.p (.o 1) .z) (.p (.p (.o 0) (.p .m .z)) .z))) A H (((k1.trans Q).trans k2).trans k3) l rfl rfl (by dsimp only [T.aG,TL.aG];rw [P.aG];rfl) rfl jw rfl rfl (.inr ⟨rfl,λb hb=>beq_false_of_ne λe=>eH A U (b:=u) (by simp) ((show u=b from e)▸hb)⟩)
 .apply qe rfl rfl;apply cI rfl rfl;apply mu rfl rfl;dsimp only [ah];dsimp only [vS,vE,vL,jO,binI,two,fR,aa,big,bM,cF,cA,cB,cV,cY,sY,wZ];have Q:aC (M0 L) E (E++ [O.list []]):=aC.app _ _;refine⟨by decide,by decide,jZ (lo:=lo) (ai:= .e t) (dw _) (b1.app _) c (by simp;exact dP (zt G (ze l1.symm))) ⟨M.up o c Q,trivial⟩ z1 λs2 f g2 k2 b2 Y=> ?_⟩;have l2:=k2.len;have w2:=Y.bd f (.head _);simp only [cC,cV,cY]at g2 l2;refine⟨by decide,by decide,?_⟩;have q2:=k2.keep E.length _ (mw c o _ (zt G (ze l1.symm)) (bP _)) aD rfl;refine jo (lo:=lo) (q:=E.length) (params:= .z) (body:= .mk f (aL+1) 59 0 0 (.e t)) (ar:=false) b2 c (zt G (ze l1.symm)) (by rw [q2];exact rfl) trivial Y (by decide) (zt w (bI rfl)) λs3 C u hh g3 g4 k3 H l=> ?_;have l3:=k3.len;have D:=l.bd;have b8:=D C (.tail _ (.head _));have c5:=D u (.head _);dsimp only [ah];dsimp only [vS,vE,vL,ao,ay,big,bM,cF,cV,cY];refine⟨by decide,pL (lo:=lo) (q:=s3.length) (base:=none) (members:= .e (.mk u (aL+1+2) 27 32 4 (.no (.c (.mk C (aL+1+1) 71 0 0 .z) (.no (.e (.mk f (aL+1) 59 0 0 (.e t)))))))) (H.app _) c (zt b8.1 (zs b8.2)) (by rw [aD];exact rfl) ⟨l.up o c (aC.app _ _),trivial⟩ (λt q=>by cases q) (by simp;exact bK λJ=>bx (fL _ _) (AN (AN (AN aE aI) aA) (.num 900000)) (AN (.num 800000) (AN aE (AN aI aA))) (aH w J) rfl) λs4 a4 a5 a6 b9 g5 g6 g7 k4 b4 r4=> ?_⟩;simp only [cC,cV,cY]at g5;have c4:dI L (aL+1+2+3) (ms0++(ms.map (eX false false false false)++ [⟨hh,u,aL+1+2,4,false,false,true,false⟩,⟨b9,a6,aL+1+2+3,4,true,true,true,false⟩])) s4:=by
   have e:(eX false false true false) ∘(eX false false false false)=eX false false false false:=by funext m;simp [eX]
   simpa [e,eX]using b4
  have A:asc st.length [f,C,u,a4,a5,a6]:=⟨(zt (zt (ze l1.symm) (zr _)) (zs g2)),(zt w2.2 g3),g4,(zt (zt c5.2 (zr _)) g5),g6,g7,trivial⟩;exact P.lg h U false false false false [⟨hh,u,aL+1+2,4,false,false,true,false⟩,⟨b9,a6,aL+1+2+3,4,true,true,true,false⟩] (.p (.o 1) (.p (.p .z .z) (.p (.p .z (.p (.p (.o 0) (.p (.p .z .z) (.p (.p .z (.p .m .z)) .z))) .z)) .z))) (.p (.o 5) (.p (.p (.o 3) .z) (.p (.p (.o 4) (.p (.p (.o 2) (.p (.p (.o 1) .z) (.p (.p (.o 0) (.p .m .z)) .z))) .z)) .z))) A c4 (((((k1.trans Q).trans k2).trans k3).trans (aC.app _ _)).trans k4) r4 rfl rfl (by dsimp only [oX,T.aG,TL.aG];rw [P.aG];rfl) rfl jw rfl rfl (.inr ⟨rfl,λb hb=>beq_false_of_ne λe=>eH A U (b:=a6) (by simp) ((show a6=b from e)▸hb)⟩)
 .apply qe rfl rfl;apply cI rfl rfl;apply mu rfl rfl;dsimp only [ah];dsimp only [vS,vE,vL,jO,binI,two,fR,aa,big,bM,cF,cA,cB,cV,cY,sY,wZ];have Q:aC (M0 L) E (E++ [O.list []]):=aC.app _ _;refine⟨by decide,by decide,jZ (lo:=lo) (ai:= .e t) (dw _) (b1.app _) c (by simp;exact dP (zt G (ze l1.symm))) ⟨M.up o c Q,trivial⟩ z1 λs2 f g2 k2 b2 Y=> ?_⟩;have l2:=k2.len;have w2:=Y.bd f (.head _);simp only [cC,cV,cY]at g2 l2;refine⟨by decide,by decide,?_⟩;have q2:=k2.keep E.length _ (mw c o _ (zt G (ze l1.symm)) (bP _)) aD rfl;refine jo (lo:=lo) (q:=E.length) (params:= .z) (body:= .mk f (aL+1) 59 0 0 (.e t)) (ar:=false) b2 c (zt G (ze l1.symm)) (by rw [q2];exact rfl) trivial Y (by decide) (zt w (bI rfl)) λs3 C u hh g3 g4 k3 H l=> ?_;have l3:=k3.len;have D:=l.bd;have b8:=D C (.tail _ (.head _));have c5:=D u (.head _);dsimp only [ah];dsimp only [vS,vE,vL,ao,ay,big,bM,cF,cV,cY];refine⟨by decide,pL (lo:=lo) (q:=s3.length) (base:=none) (members:= .e (.mk u (aL+1+2) 27 256 4 (.no (.c (.mk C (aL+1+1) 71 0 0 .z) (.no (.e (.mk f (aL+1) 59 0 0 (.e t)))))))) (H.app _) c (zt b8.1 (zs b8.2)) (by rw [aD];exact rfl) ⟨l.up o c (aC.app _ _),trivial⟩ (λt q=>by cases q) (by simp;exact bK λJ=>bx (fL _ _) (AN (AN (AN aE aI) aA) (.num 900000)) (AN (.num 800000) (AN aE (AN aI aA))) (aH w J) rfl) λs4 a4 a5 a6 b9 g5 g6 g7 k4 b4 r4=> ?_⟩;simp only [cC,cV,cY]at g5;have c4:dI L (aL+1+2+3) (ms0++(ms.map (eX false false false false)++ [⟨hh,u,aL+1+2,4,false,false,true,false⟩,⟨b9,a6,aL+1+2+3,4,true,true,true,false⟩])) s4:=by
   have e:(eX false false true false) ∘(eX false false false false)=eX false false false false:=by funext m;simp [eX]
   simpa [e,eX]using b4
  have A:asc st.length [f,C,u,a4,a5,a6]:=⟨(zt (zt (ze l1.symm) (zr _)) (zs g2)),(zt w2.2 g3),g4,(zt (zt c5.2 (zr _)) g5),g6,g7,trivial⟩;exact P.lg h U false false false false [⟨hh,u,aL+1+2,4,false,false,true,false⟩,⟨b9,a6,aL+1+2+3,4,true,true,true,false⟩] (.p (.o 1) (.p (.p .z .z) (.p (.p .z (.p (.p (.o 0) (.p (.p .z .z) (.p (.p .z (.p .m .z)) .z))) .z)) .z))) (.p (.o 5) (.p (.p (.o 3) .z) (.p (.p (.o 4) (.p (.p (.o 2) (.p (.p (.o 1) .z) (.p (.p (.o 0) (.p .m .z)) .z))) .z)) .z))) A c4 (((((k1.trans Q).trans k2).trans k3).trans (aC.app _ _)).trans k4) r4 rfl rfl (by dsimp only [oX,T.aG,TL.aG];rw [P.aG];rfl) rfl jw rfl rfl (.inr ⟨rfl,λb hb=>beq_false_of_ne λe=>eH A U (b:=a6) (by simp) ((show a6=b from e)▸hb)⟩)
 .apply qe rfl rfl;apply mu rfl rfl;dsimp only [ah];dsimp only [vS,vE,vL,two,fR,j5,b_,ao,ay,big,bM,cF,cA,cB,cV,cY,rR,bz];dsimp only [Int.reduceBEq];have Q:aC (M0 L) E (E++ [O.list []]):=aC.app _ _;refine⟨by decide,by decide,jZ (lo:=lo) (ai:= .e t) (dw _) (b1.app _) c (by simp;exact dP (zt G (ze l1.symm))) ⟨M.up o c Q,trivial⟩ z1 λs2 f g2 k2 b2 Y=> ?_⟩;have l2:=k2.len;have w2:=Y.bd f (.head _);simp only [cC,cV,cY]at g2 l2;have q2:=k2.keep E.length _ (mw c o _ (zt G (ze l1.symm)) (bP _)) aD rfl;refine jo (lo:=lo) (q:=E.length) (params:= .z) (body:= .mk f (aL+1) 59 0 0 (.e t)) (ar:=false) b2 c (zt G (ze l1.symm)) (by rw [q2];exact rfl) trivial Y (by decide) (zt w (bI rfl)) λs3 C u hh g3 g4 k3 H l=> ?_;have A:asc st.length [f,C,u]:=⟨(zt (zt (ze l1.symm) (zr _)) (zs g2)),(zt w2.2 g3),g4,trivial⟩;exact P.lg h U false false false false [⟨hh,u,aL+1+2,4,true,true,true,false⟩] (.p (.o 0) (.p (.p .z .z) (.p (.p .z (.p .m .z)) .z))) (.p (.o 2) (.p (.p (.o 1) .z) (.p (.p (.o 0) (.p .m .z)) .z))) A H (((k1.trans Q).trans k2).trans k3) l rfl rfl (by dsimp only [T.aG,TL.aG];rw [P.aG];rfl) rfl jw rfl rfl (.inr ⟨rfl,λJ J=>rfl⟩)
end
def Gj(m:Loc):kM [] [] m=some m:=rfl
def Gk(i:Nat)(a:List Nat)(v:V)(vs:List V)(m:Loc):kM (i::a) (v::vs) m=kM a vs (m.set i (some v)):=rfl
def fz{n:Int}:(eY 0 n 1).length=n.toNat:=by
 simp [eY]
section
variable{d:Nat}{st st':St}{K:KV}{L:Lay}{aL:Int}{ms0 ms:List Mk}{lo:Nat}{t:T}
def Dr{KS:KS}{o:Bool}(y:L.b<lo)(x:ms0.length<700000):∀(bA:List V) (st:St) (aL:Int) (ms:List Mk) (t:T) (g:Bool) (j:Option V),dI L aL (ms0++ms) st->Piece lo st ms t g->ms.length+2*bA.length<=10->t.ids.length+6*bA.length<=33->
  (∀st' f e h a j,dI L f (ms0++e) st'->aC (M0 L) st st'->Piece lo st' e h a->e.length<=10->h.ids.length<=33->KS .next [some (.ref L.p),some (.ref L.b),some (.bool o),some (.int ms0.length),j,some (.ref h.a),some (.bool a)] st')->
  bC (λm st k=>vB (aq (d+6)) Gl m st k) (λv m=>some (m.set 4 (some v))) none bA [some (.ref L.p),some (.ref L.b),some (.bool o),some (.int ms0.length),j,some (.ref t.a),some (.bool g)] st KS:=by
 intro zl
 induction zl with
 |nil=>
  intro st aL ms t g j B P q w A;exact⟨trivial,A st aL ms t g j B (aC.refl _) P (by simpa using q) (by simpa using w)⟩
 |cons C bA I=>
  intro st aL ms t g j B P q w A;refine⟨trivial,?_⟩;simp only [cV]at q w;have next:∀st' f e h a,dI L f (ms0++e) st'->aC (M0 L) st st'->Piece lo st' e h a->e.length<=ms.length+2->h.ids.length<=t.ids.length+6->cS (λm st=>bC (λm st k=>vB (aq (d+6)) Gl m st k) (λv m=>some (m.set 4 (some v))) none bA m st KS) KS .next [some (.ref L.p),some (.ref L.b),some (.bool o),some (.int ms0.length),some C,some (.ref h.a),some (.bool a)] st':=
   λst' f e h a b k p l z=>I st' f e h a (some C) b p (cD λn=>bx (jt _ _ _) (AN (AN aE (.mulL 2 (AN aI aA))) (AN bg (AN (.num 10) aA))) (AN (.num 10) (AN (AN aE (.num 2)) (AN bg (.mulL 2 aI)))) (aH q (aH l n)) rfl) (cD λn=>bx (jt _ _ _) (AN (AN aI (.mulL 6 (AN aE aA))) (AN bg (AN (.num 33) aA))) (AN (.num 33) (AN (AN aI (.num 6)) (AN bg (.mulL 6 aE)))) (aH w (aH z n)) rfl) λs c m u r j D G H l' E=>A s c m u r j D (k.trans G) H l' E
  refine aV g (λJ h'=>by simp only [bq,cA,cB,cF,bM];exact h') ?_;cases g
  .rw [if_neg (by decide),ah];refine Gh B y P (bK λn=>bx (jt _ _ _) (AN (AN aE aA) (AN (AN aI (.mulL 2 (AN bg aA))) (.num 800000))) (AN (.num 700000) (AN (.num 10) (AN aE aI))) (aH x (aH q n)) rfl) λst' f e h a b k p l z=> ?_;exact next st' f e h a b k p l z
  .rw [if_pos rfl,ah];refine Gi B y P (bK λn=>bx (jt _ _ _) (AN (AN aE aA) (AN (AN aI (.mulL 2 (AN bg aA))) (.num 800000))) (AN (.num 700000) (AN (.num 10) (AN aE aI))) (aH x (aH q n)) rfl) λst' f e h a b k p l z=> ?_;exact next st' f e h a b k p l z
def Nb{C:aR}{m:Loc}{i j:Nat}{p q:Bool}(b:m[i]? =some (some (.bool p)))(c:m[j]? =some (some (.bool q))){a:KV}(h:a (.bool (p&& !q)) st):vE C (.dh (.d (.l i) (.ng (.l j)))) m st a:=
 fu (λK h=>by simp only [bq,b];exact h) (λK h=>by simp only [bq,uY,c,bz];exact h) h
def Ay{C:aR}{m:Loc}{i j:Nat}{p q:Bool}(b:m[i]? =some (some (.bool p)))(c:m[j]? =some (some (.bool q))){a:KV}(h:a (.bool (!p&&q)) st):vE C (.dh (.d (.ng (.l i)) (.l j))) m st a:=
 fu (λK h=>by simp only [bq,uY,b,bz];exact h) (λK h=>by simp only [bq,c];exact h) h
def BH{m:Bool}(B:dI L aL ms0 st)(j:L.b<lo)(G:lo<=st.length)(u:ms0.length<700000)
  (h:∀st' a7 D t',dI L a7 (ms0++D) st'->aC (M0 L) st st'->Piece lo st' D t' m->D.length<=11->t'.ids.length<=40->K (.ref t'.a) st'):aq (d+7) 51 [.ref L.p,.ref L.b,.bool m] st K:=by
 refine call_in Nc [some (.ref L.p),some (.ref L.b),some (.bool m),none,none,none,none] ?_ (by decide) rfl rfl rfl;rw [Nc,ah];simp only [cL,bq,bV,jh,jH,aa,bM,cF,cA,cB,B.vM,B.marks,EG,bN];refine⟨by decide,?_⟩;refine Js B j G (zt u (zr 100000)) λs1 b0 c3 t1 E b1 k1 p1 n1 z1=> ?_;simp only [kZ,Gk,Gj,cA,cB];dsimp only [ah,iu,bq,bV,cJ,cy,aW,C4,bM];refine fH b1 (by decide) λv s2 h0 h5 b2 k2 l2=> ?_;have p2:={p1 with rep:=p1.rep.up B.ord j k2};have tv:v.toNat<=4:=Int.toNat_le.mpr (Int.le_sub_one_of_lt h5);refine⟨(CD (Int.not_le.mp λg=>dJ (fP _) (AI jb bH) (AI bH (.num (-4611686018427387904))) (bE h0 g) rfl) (Int.not_le.mp λg=>dJ (fP _) (AI (AI bH ck) (.num 4611686018427387904)) (AI (.num 5) bH) (bE h5 g) rfl)),Dr j u _ s2 b0 c3 t1 E none b2 p2 (by rw [fz];exact aH n1 (fJ 2 tv)) (by rw [fz];exact aH z1 (fJ 6 tv)) λy c H l w v4 I k3 k n3 U=> ?_⟩;have o:=B.ord;have A:=(k1.trans k2).trans k3;have tb:∀x ∈ l.ids,x<y.length:=λx hx=>(k.rep.bd x hx).2;have l1:=k1.len;have l3:=k3.len;dsimp only [aa,ah];refine aV (m&& !w) (λK' h'=>Nb rfl rfl h') ?_;cases m<;>cases w
 .
  rw [if_neg (by decide),au,aa,ah];refine aV false (λK' h'=>Ay (p:=false) rfl rfl h') ?_;rw [if_neg (by decide),au,aa,ah];dsimp only [vS,vE,ao,ay,bM,cF];exact h y c H l I A k (dP n3) (zt U (zr 7))
 .
  rw [if_neg (by decide),au,aa,ah];refine aV true (λK' h'=>Ay (p:=false) rfl rfl h') ?_;rw [if_pos rfl,ah];dsimp only [vS,vE,vL,ao,ay,big,bM,cF,cV,cY,kH];have q1:aC (M0 L) y (y++ [O.list []]):=aC.app _ _;refine⟨by decide,by decide,jZ (ai:= .e l) rfl (I.app _) j (by simp;exact dP (zt (zt (zt G l1) (zf l2)) l3)) ⟨k.rep.up o j q1,trivial⟩ (by simp;exact bK λg=>bx (fL _ _) (AN (AN aE aA) (AN aI (.num 900000))) (AN (.num 700000) (AN (.num 10) (AN aE aI))) (aH u (aH n3 g)) rfl) λs4 C g4 k4 b4 r4=> ?_⟩;have J:=k4.len;have w4:=r4.bd C (.head _);simp only [cC,cV,cY]at g4 J;have q2:=k4.keep y.length _ (mw j o _ (zt (zt (zt G l1) (zf l2)) l3) (bP _)) aD rfl;refine jo (lo:=lo) (params:= .z) (body:= .mk C (c+1) 59 0 0 (.e l)) (ar:=true) b4 j (zt (zt (zt G l1) (zf l2)) l3) (by rw [q2];exact rfl) trivial r4 (by decide) (bK λg=>bx (fL _ _) (AN (AN aE aA) (AN aI (.num 900000))) (AN (.num 700000) (AN (.num 10) (AN aE aI))) (aH u (aH n3 g)) rfl) λN M z hh g5 g6 k5 b5 r5=> ?_;have Q:asc y.length [C,M,z]:=⟨zt (zr _) (zs g4),zt w4.2 g5,g6,trivial⟩;have pm:((.mk z (c+1+2) 27 4 4 (.no (.c (.mk M (c+1+1) 71 0 0 .z) (.no (.e (.mk C (c+1) 59 0 0 (.e l))))))):T).aP true true true |>.Perm (l.aP false true false++([⟨hh,z,c+1+2,4,true,true,true,false⟩]:List Mk).map core):=LX.perm (e:=(.p (.o 0) (.p (.p .z .z) (.p (.p .z (.p .m .z)) .z)))) (n:=1) (f:=λi=>(([⟨hh,z,c+1+2,4,true,true,true,false⟩]:List Mk).map core).getD i (0,0,0,false,false,false)) rfl (by decide);exact h N _ _ (.mk z (c+1+2) 27 4 4 (.no (.c (.mk M (c+1+1) 71 0 0 .z) (.no (.e (.mk C (c+1) 59 0 0 (.e l))))))) b5 (((A.trans q1).trans k4).trans k5)
   (k.wrap r5 (LX.nd (e:=(.p (.o 2) (.p (.p (.o 1) .z) (.p (.p (.o 0) (.p .m .z)) .z)))) (n:=3) rfl (by decide) rfl Q tb k.nd) (by dsimp only [T.aG,TL.aG];rw [k.aG];rfl) pm (λe h=>by cases List.mem_singleton.mp h;exact⟨show(4:Int)≠1 by decide,rfl⟩) (tL jw pm rfl rfl) (λg=>rfl)
    (.inr ⟨rfl,λb hb=>beq_false_of_ne λe=>eH Q tb (by simp) ((show z=b from e)▸hb)⟩)) (by simp;exact n3) (zt (LX.len (e:=(.p (.o 2) (.p (.p (.o 1) .z) (.p (.p (.o 0) (.p .m .z)) .z)))) (f:=λi=>[C,M,z].getD i 0) rfl (by decide)) (zt (za U 6) (zr 1)))
 .
  rw [if_pos (show(true&& !false)=true from rfl),ah];dsimp only [vS,vE,vL,aa,bM,cF,rU];refine dG I (bK λg=>bx (fL _ _) (AN (AN aE aA) (AN aI (.num 900000))) (AN (.num 700000) (AN (.num 10) (AN aE aI))) (aH u (aH n3 g)) rfl) λs4 b4 k4=> ?_;have J:=k4.len;dsimp only [ah];dsimp only [vS,vE,vL,ao,ay,big,bM,cF,cV,cY,rO];refine⟨by decide,bR (ai:= .e l) rfl b4 j (zt (zt (zt (zt G l1) (zf l2)) l3) J) ⟨k.rep.up o j k4,trivial⟩ (by simp;exact bK λg=>bx (fL _ _) (AN (AN aE aA) (AN aI (.num 900000))) (AN (.num 700000) (AN (.num 10) (AN aE aI))) (aH u (aH n3 g)) rfl) λN a g5 k5 b5 r5=> ?_⟩;have Q:asc y.length [a]:=⟨zt J (zs g5),trivial⟩;have Y:=k.F8 rfl;have a4:(l.aP true true true).filter fY=[]:=by
   have:=k.ret;rw [Y]at this;simpa using this.symm
  have b8:dI L (c+1) (ms0++(H.map (eX true true true true)++ [])) N:=by simpa using b5
  have pm:((.mk a (c+1) 43 0 0 (.e l):T).aP true true true).Perm (l.aP true true true++([]:List Mk).map core):=LX.perm (e:=(.p .z (.p .m .z))) (n:=0) (f:=λg=>(0,0,0,false,false,false)) rfl (by decide);exact h N _ _ (.mk a (c+1) 43 0 0 (.e l)) b8 ((A.trans k4).trans k5)
   (k.wrap r5 (LX.nd (e:=(.p (.o 0) (.p .m .z))) (bs:=[a]) (n:=1) rfl (by decide) rfl Q tb k.nd) (by dsimp only [T.aG,TL.aG];rw [k.aG];rfl) pm (λg h=>nomatch h) (tL (dR a4) pm rfl (LX.gY (e:=(.p .m .z)) (f:=λi=>[a].getD i 0) rfl Y)) (λq=>by cases q) (.inl ⟨rfl,λg=>rfl⟩)) (by simp;exact dP n3) (zt (LX.len (e:=(.p (.o 0) (.p .m .z))) (f:=λi=>[a].getD i 0) rfl (by decide)) (zt (za U 6) (zr 1)))
 .rw [if_neg (by decide),au,aa,ah];refine aV false (λK' h'=>Ay (p:=true) rfl rfl h') ?_;exact h y c H l I A k (dP n3) (zt U (zr 7))
end
noncomputable def TL.app:TL->TL->TL
 | .z,k=>k
 | .no r,k=> .no (r.app k)
 | .c t r,k=> .c t (r.app k)
def TL.app_1(x:TL):TL.z.app x=x:=rfl
def TL.u_(x r:TL):r.no.app x=(r.app x).no:=rfl
def TL.vd(x:TL)(t:T)(r:TL):(TL.c t r).app x=TL.c t (r.app x):=rfl
theorem jA:∀l k:TL,(l.app k).aZ=l.aZ++k.aZ
 | .z,k=>by simp [TL.app_1,TL.jc]
 | .no r,k=>by simp [TL.u_,TL.ku,jA r k]
 | .c t r,k=>by simp [TL.vd,TL.iz,jA r k]
theorem kB:∀l k:TL,(l.app k).ids=l.ids++k.ids
 | .z,k=>by simp [TL.app_1,TL.aU]
 | .no r,k=>by simp [TL.u_,TL.cX,kB r k]
 | .c t r,k=>by simp [TL.vd,TL.cG,kB r k]
theorem rY(x y z:Bool):∀l k:TL,(l.app k).aP x y z=l.aP x y z++k.aP x y z
 | .z,k=>by simp [TL.app_1,TL.bF]
 | .no r,k=>by simp [TL.u_,TL.fy,rY x y z r k]
 | .c t r,k=>by simp [TL.vd,TL.dY,rY x y z r k]
theorem vQ{lo hi:Nat}{ν:Nat->Int}{st:St}:∀{l k:TL},cQ lo hi ν st l->cQ lo hi ν st k->cQ lo hi ν st (l.app k)
 | .z,k,_,h=>h
 | .no r,k,h',h=>vQ (l:=r) h' h
 | .c t r,k,h',h=>⟨h'.1,vQ h'.2 h⟩
mutual
noncomputable def T.ini:T->List T
 | .mk _ _ k _ _ ai=>if k=36 then ai.sd else if k=34\/k=35 then ai.lF else []
noncomputable def TL.sd:TL->List T
 | .c t (.c i _)=>i::t.ini
 | .c t .z=>t.ini
 | .c t (.no _)=>t.ini
 |_=>[]
noncomputable def TL.lF:TL->List T
 | .z=>[]
 | .no r=>r.lF
 | .c t r=>t.ini++r.lF
end
def T.qQ(a:Nat)(at_ k flags sort:Int)(ai:TL):(T.mk a at_ k flags sort ai).ini=if k=36 then ai.sd else if k=34\/k=35 then ai.lF else []:=rfl
def TL.rZ:TL.z.lF=[]:=rfl
def TL.vV(r:TL):r.no.lF=r.lF:=rfl
def TL.r_(t:T)(r:TL):(TL.c t r).lF=t.ini++r.lF:=rfl
mutual
noncomputable def T.vW:T->Bool
 | .mk _ _ k _ _ ai=>if k=36 then ai.Ot else if k=34\/k=35 then ai.zV else true
noncomputable def TL.Ot:TL->Bool
 | .c t (.c _ _)=>t.vW
 | .c t (.no _)=>t.vW
 |_=>false
noncomputable def TL.zV:TL->Bool
 | .z=>true
 | .no r=>r.zV
 | .c t r=>t.vW&&r.zV
end
def T.uL(a:Nat)(at_ k flags sort:Int)(ai:TL):(T.mk a at_ k flags sort ai).vW=if k=36 then ai.Ot else if k=34\/k=35 then ai.zV else true:=rfl
def TL.Bh:TL.z.zV=true:=rfl
def TL.Ld(r:TL):r.no.zV=r.zV:=rfl
def TL.yb(t:T)(r:TL):(TL.c t r).zV=(t.vW&&r.zV):=rfl
theorem zW:∀l k:TL,(l.app k).zV=(l.zV&&k.zV)
 | .z,k=>rfl
 | .no r,k=>by simp [TL.u_,TL.Ld,zW r k]
 | .c t r,k=>by simp [TL.vd,TL.yb,zW r k,Bool.and_assoc]
theorem vP:∀l k:TL,(l.app k).bJ=(l.bJ&&k.bJ)
 | .z,k=>rfl
 | .no r,k=>by simp [TL.u_,TL.jC,vP r k]
 | .c t r,k=>by simp [TL.vd,TL.gc,vP r k,Bool.and_assoc]
theorem vR:∀l k:TL,(l.app k).lF=l.lF++k.lF
 | .z,k=>by simp [TL.app_1,TL.rZ]
 | .no r,k=>by simp [TL.u_,TL.vV,vR r k]
 | .c t r,k=>by simp [TL.vd,TL.r_,vR r k]
noncomputable def flat(aM:List (T×List Mk)):List Mk:=(aM.map (·.2)).flatten
def fk(a b:List (T×List Mk)):flat (a++b)=flat a++flat b:=by simp [flat]
def jB(s:T×List Mk):flat [s]=s.2:=(fK _)
abbrev Nf(t:T)(n:Nat)(ms:List Mk):V:= .tup [.ref t.a,.int n,.int ((n+ms.length:Nat):Int)]
def gH:Nat->List (T×List Mk)->List V
 |_,[]=>[]
 |n,s::r=>Nf s.1 n s.2::gH (n+s.2.length) r
theorem oV:∀(n:Nat) (a b:List (T×List Mk)),gH n (a++b)=gH n a++gH (n+(flat a).length) b
 |n,[],b=>(dw _)
 |n,s::a,b=>by
  have:=oV (n+s.2.length) a b;simp only [Dc,gH,this];have e:n+s.2.length+(flat a).length=n+(flat (s::a)).length:=by simp [flat];exact iW (cD λc=>bx (jt _ _ _) (AN (AN aE (AN aI bg)) aA) (AN (AN aE aI) bg) c rfl) (cD λc=>bx (jt _ _ _) (AN (AN (AN aE aI) bg) aA) (AN aE (AN aI bg)) c rfl)
  rw [e]
def oS(os:List V):Prop:=∀v ∈ os,∃l,v= .tup l
def oS.hit{os:List V}(h:oS os):uK (.list os)=false:=by
 match os,h with
 | [],_=>rfl
 | [a],_=>rfl
 |a::b::r,h=>
  obtain ⟨l,rfl⟩:=h b (.tail _ (.head _));rfl
def oS.app{a b:List V}(h:oS a)(h':oS b):oS (a++b):=λv c=>(List.mem_append.mp c).elim (h v) (h' v)
theorem fq:∀(n:Nat) (s:List (T×List Mk)),oS (gH n s)
 |_,[]=>λv a=>by cases a
 |n,s::r=>λv a=>by
  refine a_ (List.mem_cons.mp a) (λb=> ?_) λa=> ?_
  any_goals subst b
  .exact⟨_,rfl⟩
  .exact fq _ r v a
abbrev M1(L:Lay)(oa:Nat)(i:Nat):Prop:=M0 L i\/i=oa
def aC.m1{L:Lay}{oa:Nat}{a b:St}(k:aC (M0 L) a b):aC (M1 L oa) a b:=k.mono λc h=> .inl h
section
variable{d:Nat}{st st':St}{K:KV}{L:Lay}{aL:Int}{ms0 ms:List Mk}{lo oa:Nat}{t:T}
def O_{hi:Nat}(a:L.b<lo)(o:L.p<L.b/\L.k<L.b/\L.p≠L.k)(c:oa<lo):∀i,lo<=i->i<hi-> ¬M1 L oa i:=λi b f z=>z.elim (mw a o i b f) λe=>(fV _ (zt c (zt b (ze e))))
def Piece.up{M:Nat->Prop}{a:Bool}(P:Piece lo st ms t a)(k:aC M st st')(b:∀i,lo<=i->i<st.length-> ¬M i):Piece lo st' ms t a:={P with rep:=(P.rep.keep k b).wide (bP _) k.len}
def Piece.low{b:Nat}{a:Bool}(P:Piece lo st ms t a)(h:b<=lo):Piece b st ms t a:={P with rep:=P.rep.wide h (bP _)}
def ya{os:List V}(B:dI L aL ms0 st)(q:L.b<lo)(z:lo<=st.length)(m:st[oa]? =some (.list os))(c:oS os)(j: ¬M0 L oa)(n:oa<lo)(l:ms0.length<600000)(u:os.length<600000)
  (h:∀st' f a r,dI L f (ms0++a) st'->aC (M1 L oa) st st'->(match r with
   |none=>a=[]/\st'[oa]? =some (.list os)
   |some t=>Piece lo st' a t false/\a.length<=11/\st'[oa]? =some (.list (os++ [Nf t ms0.length a]))/\t.ids.length<=40)->K (nu r) st'):aq (d+8) 52 [.ref L.p,.ref L.b,.ref oa] st K:=by
 refine call_in Ng [some (.ref L.p),some (.ref L.b),some (.ref oa),none,none] ?_ (by decide) rfl rfl rfl;dsimp only [Ng,ah,j6];dsimp only [vE,vL,bM];refine fH B (by decide) λv A C G b1 k1 l1=> ?_;have o:=B.ord;dsimp only [j5,b_,bz];by_cases p:v=1
 .subst p;simp only [bne_self_eq_false];dsimp only [au,aa,ah];simp only [cL,bq,bV,jh,jH,aa,bM,cF,cA,cB,b1.vM,b1.marks,EG,bN];refine⟨by decide,?_⟩;dsimp only [ah];dsimp only [vS,vE,vL,aa,bM,cF,cA,cB];refine BH b1 q (zt z (zf l1)) (zt l (zr 100000)) λE g k t b2 k2 w n2 x=> ?_;dsimp only [ah];have zS:=k1.trans k2;have b:=zS.keep _ _ j m c.hit;simp only [gy,bq,bV,iV,jh,jH,yh,cy,aW,aa,big,bM,cF,b,b2.vM,b2.marks,EG,bN];refine⟨by decide,(zt u (zr 400000)),?_⟩;have l2:=k2.len;refine h _ g k (some t) (b2.other j b c.hit) ((zS.m1).trans (aC.set (.inr rfl))) ⟨?_,n2,?_,x⟩
  .exact w.up (M:=(·=oa)) (aC.set rfl) λi y D e=>(fV _ (zt n (zt y (ze e))))
  .rw [bh b];simp [Nf]
 .have e:(v != 1)=true:=by simp [p]
  rw [e];dsimp only;exact h A aL [] none (by simpa using b1) k1.m1 ⟨rfl,k1.keep _ _ j m c.hit⟩
end
structure SV (lo:Nat) (st:St) (t:T) (aM:List (T×List Mk)):Prop where
 rep:Rep lo st.length zn st t
 nd:t.ids.Nodup
 aP:((flat aM).map core).Perm (t.aP true true true)
 ini:t.ini.Perm (aM.map (·.1))
 seg:∀s ∈ aM,Piece lo st s.2 s.1 false/\(s.2.length<=11/\s.1.ids.length<=40)
 kind:t.kind=8\/t.kind=34\/t.kind=35
 wf:t.vW=true
 Cz:t.bJ=true
noncomputable def sz:Nat->Nat
 |0=>1
 |n+1=>1+2*(41+sz n)
noncomputable def mx:Nat->Nat
 |0=>0
 |n+1=>2*(mx n+1)
def f_{aM:List (T×List Mk)}(h:∀s ∈ aM,s.2.length<=11):(flat aM).length<=11*aM.length:=by
 induction aM with
 |nil=>exact(bP _)
 |cons s r c=>
  have e:=h s (.head _);have a:=c λx f=>h x (.tail _ f);simp [flat]at a ⊢;exact cD λb=>bx (jt _ _ _) (AN aE (AN aI (AN (.mulL 11 (AN bg aA)) aA))) (AN (.num 11) (AN (.mulL 11 bg) (AN aE aI))) (aH e (aH a b)) rfl
structure PL (L:Lay) (lo ka oa:Nat) (os:List V) (ms0:List Mk) (st:St) (aL:Int) (l:TL) (aM:List (T×List Mk)):Prop where
 b:dI L aL (ms0++flat aM) st
 ai:st[ka]? =some (.list l.aZ)
 out:st[oa]? =some (.list (os++gH ms0.length aM))
 rep:cQ lo st.length zn st l
 nd:l.ids.Nodup
 aP:((flat aM).map core).Perm (l.aP true true true)
 ini:l.lF.Perm (aM.map (·.1))
 seg:∀s ∈ aM,Piece lo st s.2 s.1 false/\(s.2.length<=11/\s.1.ids.length<=40)
 wf:l.zV=true
 Cz:l.bJ=true
def vU(L:Lay)(oa d n:Nat):Prop:=∀(st:St) (K:KV) (aL:Int) (ms0:List Mk) (lo:Nat) (os:List V) (x:Int),x=n->dI L aL ms0 st->L.b<lo->lo<=st.length->st[oa]? =some (.list os)->oS os-> ¬M0 L oa->oa<lo->ms0.length+10000*n<400000->os.length+10000*n<400000->
 (∀st' a t aM,dI L a (ms0++flat aM) st'->aC (M1 L oa) st st'->SV lo st' t aM->aM.length<=mx n->t.ids.length<=sz n->st'[oa]? =some (.list (os++gH ms0.length aM))->K (.ref t.a) st')->aq d 53 [.ref L.p,.ref L.b,.ref oa,.int x] st K
theorem lC:∀(n:Nat) (s:List (T×List Mk)),(gH n s).length=s.length
 |_,[]=>rfl
 |n,s::r=>by simp [gH,lC _ r]
def Cy{C:aR}{m:Loc}{st:St}{K:KV}{b:Nat}{x n:Int}{i g u v:Nat}{r:IL}(hb:m[1]? =some (some (.ref b)))(e:m[i]? =some (some (.int x)))(h:∀w,vE C (.call 40 (.j (.l 1) (.g g) (.s w) r)) m st K):
  vE C (.call 40 (.j (.l 1) (.g g) (.ite (.cmp .lt (.l i) (.n n)) (.s u) (.s v)) r)) m st K:=by
 have c:=h u;have a:=h v;simp only [bq,bV,iU,cJ,d_,D_,aW,hb,e,cv,b_,bz]at c a ⊢;cases decide (x<n)
 .exact a
 .exact c
section
variable{d:Nat}{st st':St}{K:KV}{L:Lay}{aL:Int}{ms0 ms:List Mk}{lo oa ka:Nat}{t:T}{os:List V}{l:TL}{aM:List (T×List Mk)}
def PL.add{k:TL}{eO:List (T×List Mk)}{g:Int}(P:PL L lo ka oa os ms0 st aL l aM)(p:L.b<lo)(D:ka<lo)(A:oa<lo)(n:ka≠oa)(j: ¬M0 L ka)(kp:aC (M1 L oa) st st')(hb:dI L g (ms0++flat (aM++eO)) st')(v:st'[oa]? =some (.list (os++gH ms0.length (aM++eO))))
  (G:cQ lo st'.length zn st' k) (I:k.ids.Nodup) (u:∀x ∈ k.ids,st.length<=x) (H:((flat eO).map core).Perm (k.aP true true true)) (hi:k.lF.Perm (eO.map (·.1))) (y:∀s ∈ eO,Piece lo st' s.2 s.1 false/\(s.2.length<=11/\s.1.ids.length<=40)) (E:k.zV=true) (w:k.bJ=true):
  PL L lo ka oa os ms0 (st'.set ka (.list (l.aZ++k.aZ))) g (l.app k) (aM++eO):=by
 have o:=P.b.ord;have m:=kp.keep _ _ (λz=>z.elim j λe=>n e) P.ai (iS _);have f:aC (·=ka) st' (st'.set ka (.list (l.aZ++k.aZ))):=aC.set rfl;have h:∀i,lo<=i->i<st'.length-> ¬(i=ka):=λi q M e=>(fV _ (zt D (zt q (ze e))));refine⟨hb.other j m (iS _),by rw [bh m,jA],aT n v,?_,?_,?_,?_,?_,by rw [zW,P.wf,E];rfl,by rw [vP,P.Cz,w];rfl⟩
 .refine vQ ?_ ?_
  .exact(((P.rep.keep kp (O_ p o A)).wide (bP _) kp.len).keep f h).wide (bP _) f.len
  .exact(G.keep f h).wide (bP _) f.len
 .rw [kB,nc];refine⟨P.nd,I,λa J b hb e=> ?_⟩;have q:=(P.rep.bd a J).2;have C:=u b hb;exact fV _ (zt q (zt C (zf e)))
 .rw [fk,List.map_append,rY];exact P.aP.append H
 .rw [vR,List.map_append];exact P.ini.append hi
 .intro s c;rcases List.mem_append.mp c with c |c
  .exact⟨((P.seg s c).1.up kp (O_ p o A)).up f h,(P.seg s c).2⟩
  .exact⟨(y s c).1.up f h,(y s c).2⟩
def Ea{KS:KS}{n:Nat}{x U:Int}{v6 v7 v8:Option V}(IH:vU L oa (d+9) n)(f:x=n+1)(hn:n<=1)(P:PL L lo ka oa os ms0 st aL l aM)(m:L.b<lo)(C:lo<=st.length)(hk:ka<lo)(G:oa<lo)(J:ka≠oa)(E: ¬M0 L ka)(A: ¬M0 L oa)(hT:oS os)(Q:ms0.length+10000*(n+1)<400000)(b6:os.length+10000*(n+1)<400000)(q:aM.length<100)(hl:l.aZ.length<100)
  (hK:∀st' c6 l' eO v7 v8,PL L lo ka oa os ms0 st' c6 l' eO->aC (λi=>M1 L oa i\/i=ka) st st'->eO.length<=aM.length+(mx n+1)->l'.aZ.length=l.aZ.length+1->l'.ids.length<=l.ids.length+(41+sz n)->KS .next [some (.ref L.p),some (.ref L.b),some (.ref oa),some (.int x),some (.int U),some (.ref ka),v6,v7,v8] st'):
  vB (aq (d+9)) Eb [some (.ref L.p),some (.ref L.b),some (.ref oa),some (.int x),some (.int U),some (.ref ka),v6,v7,v8] st KS:=by
 have o:=P.b.ord;have up:∀{a b:St},aC (M1 L oa) a b->aC (λi=>M1 L oa i\/i=ka) a b:=λk=>k.mono λj h=> .inl h;have D:∀(a:St) (y:O),aC (λi=>M1 L oa i\/i=ka) a (a.set ka y):=λa y=>aC.set (.inr rfl);have I:∀{s:St},aC (M1 L oa) st s->s[ka]? =some (.list l.aZ):=λk=>k.keep _ _ (λz=>z.elim E λe=>J e) P.ai (iS _);have fl:=f_ λs g=>(P.seg s g).2.1;have z0:(ms0++flat aM).length<500000:=by simp;exact bK λj=>bx (oJ _ _ _ _) (AN (AN (AN aI (.mulL 10000 (AN aE aA))) aA) (AN (.mulL 11 (AN bg aA)) (AN dm (.num 500000)))) (AN (.num 400000) (AN (.mulL 11 (.num 100)) (AN (.mulL 11 bg) (AN aI dm)))) (aH Q (aH (fJ 11 q) (aH fl j))) rfl
 dsimp only [Eb,ah];simp only [cL,bq,bV,cJ,cy,aW,aa,bM,cA,cB];refine fH P.b (by decide) λv s1 h0 h5 b1 k1 l1=> ?_;have P1:PL L lo ka oa os ms0 s1 aL l aM:=⟨b1,I k1.m1,k1.keep _ _ A P.out (hT.app (fq _ _)).hit,P.rep.up o m k1,P.nd,P.aP,P.ini,λs g=>⟨(P.seg s g).1.up k1 (mw m o),(P.seg s g).2⟩,P.wf,P.Cz⟩;dsimp only [ah];refine aV (v==3&&decide (U>2)) (λK' h'=>fu (λK h=>fU rfl rfl h) (λK h=>fU rfl rfl h) h') ?_;by_cases hA:(v==3&&decide (U>2))=true
 .rw [if_pos hA,ah];simp only [gy,bq,bV,iV,aa,big,bM,cF,P1.ai];refine⟨(zt hl (zr 999900)),?_⟩;dsimp only [au,aa,au];have:=P1.add (k:= .no .z) (eO:=[]) m hk G J E (aC.refl _) (by simpa using b1) (by simpa using P1.out) trivial (by simp [TL.aU,TL.cX]) (λx f=>by simp [TL.aU,TL.cX]at f) (oU _) (oU _) (λs g=>by cases g) rfl rfl;rw [fK]at this;exact hK _ aL _ aM _ _ this ((up k1.m1).trans (D _ _)) (zr _) (by simp [jA,TL.jc,TL.ku]) (by simp [kB,TL.aU,TL.cX]<;>lia)
 rw [if_neg hA];dsimp only [ah];by_cases h4:v=4
 .subst h4;refine aV true (λK' h'=>fU rfl (by decide) h') ?_;rw [if_pos rfl,ah];simp only [gy,bq,bV,iU,cJ,iV,fQ,cy,aW,aa,big,bM,cF,cV,cY,kC,Ia,P1.ai];refine eB b1 m (zt C (zf l1)) (zt z0 (zr 400000)) λs2 a1 g2 k2 b2 r2=> ?_;have l2:=k2.len;have w2:=r2.bd a1 cW;refine⟨by decide,bR (ai:= .c (.mk a1 (aL+1) 8 0 0 .z) (.no .z)) rfl b2 m (zt w2.1 (zs w2.2)) ⟨r2,trivial⟩ (zt z0 (zr 400000)) λs3 a2 g3 k3 b3 r3=> ?_⟩;have LO:=(k1.trans k2).trans k3;simp only [I LO.m1];refine⟨(zt hl (zr 999900)),?_⟩;dsimp only [au,aa,au,aa,au];have:=P1.add (k:= .e (.mk a2 (aL+1+1) 36 8192 0 (.c (.mk a1 (aL+1) 8 0 0 .z) (.no .z)))) (eO:=[]) m hk G J E (k2.trans k3).m1 (by simpa using b3) (by simpa using(k2.trans k3).keep _ _ A P1.out (hT.app (fq _ _)).hit)
   ⟨r3,trivial⟩ (by simp [T.aU,TL.aU,TL.cX,TL.cG];exact zg (zt w2.2 (zs g3))) (λx f=>by simp [T.aU,TL.aU,TL.cX,TL.cG]at f;exact a_ f (λzo=>(zt (zt l2 (zs g3)) (zf zo))) λzo=>(zt g2 (zf zo))) (oU _) (oU _) (λs g=>by cases g) rfl rfl
  rw [fK]at this;exact hK _ _ _ aM _ _ this ((up LO.m1).trans (D _ _)) (zr _) (by simp [jA,TL.jc,TL.iz]) (by simp [kB,T.aU,TL.aU,TL.cX,TL.cG]<;>exact zt (zr 39) (zr _))
 .refine aV false (λK' h'=>fU rfl (by simp [b_,h4]) h') ?_;rw [if_neg (by decide),ah];simp only [cL,bq,bV,cJ,j8,cy,aW,zX,aa,bM,cF,cA,cB];refine IH s1 _ aL (ms0++flat aM) s1.length (os++gH ms0.length aM) (x-1) (x_ (Int.not_lt.mp λj=>dJ (xU _ _) (AI bH (AI jr ck)) (AI (AI jr ck) (.sub bH ck)) (bE (Int.le_of_eq f) j) rfl) (Int.not_lt.mp λj=>dJ (xU _ _) (AI (AI jr ck) (AI (.sub bH ck) ck)) (AI bH jr) (bE (Int.le_of_eq f.symm) j) rfl)) b1 (zt (zt m C) (zf l1)) (bP _) P1.out (hT.app (fq _ _)) A (zt (zt G C) (zf l1)) (by rw [cC];exact bK λj=>bx (oJ _ _ _ _) (AN (AN (AN aI (.mulL 10000 (AN aE aA))) aA) (AN (.mulL 11 (AN bg aA)) (AN dm (.num 400000)))) (AN (.num 400000) (AN (.mulL 11 (.num 100)) (AN (.mulL 11 bg) (AN (AN aI dm) (.mulL 10000 aE))))) (aH Q (aH (fJ 11 q) (aH fl j))) rfl) (by simp [lC];exact bK λj=>bx (jt _ _ _) (AN (AN (AN aI (.mulL 10000 (AN aE aA))) aA) (AN (AN bg aA) (.num 400000))) (AN (.num 400000) (AN (.num 100) (AN (AN aI bg) (.mulL 10000 aE)))) (aH b6 (aH q j)) rfl) λs2 f8 t c b2 k2 p n2 b5 o2=> ?_;dsimp only [ah];simp only [gy];have l2:=k2.len;have tb:=λx f=>(p.rep.bd x f);have zS:=k1.m1.trans k2;have b0:=f_ λs g=>(p.seg s g).2.1;have m1:mx n<=2:=by
   rcases (RE hn)with rfl |rfl<;>decide
  dsimp only [iV];simp only [bq,bM,cF,I zS];refine Cy rfl rfl λw=> ?_;simp only [bq,bV,iU,cJ,fQ,cy,aW,aa,big,bM,cF,cV,cY,kC];have d0:ms0++flat aM++flat c=ms0++flat (aM++c):=by rw [fk,fW]
  rw [d0]at b2;have c9:s2[oa]? =some (.list (os++gH ms0.length (aM++c))):=by
   rw [o2,oV,fW];simp
  have e8:=(tb t.a (by cases t;exact(.head _))).2;refine ya b2 (zt (zt (zt m C) (zf l1)) l2) (bP _) c9 (hT.app (fq _ _)) A (zt (zt (zt G C) (zf l1)) l2) (by rw [cC,fk,cC];exact bK λj=>bx (Q0 _ _ _ _ _ _ _) (AN (AN (AN aI (.mulL 10000 (AN aE aA))) aA) (AN (.mulL 11 (AN bg aA)) (AN dm (AN (.mulL 11 j4) (AN K7 (AN (.mulL 11 xV) (.num 600000))))))) (AN (.num 400000) (AN (.mulL 11 (.num 100)) (AN (.mulL 11 bg) (AN (.mulL 11 xV) (AN (.mulL 11 j4) (AN (.mulL 11 (.num 2)) (AN aI (AN dm K7)))))))) (aH Q (aH (fJ 11 q) (aH fl (aH (fJ 11 n2) (aH b0 (aH (fJ 11 m1) j)))))) rfl) (by simp [lC];exact bK λj=>bx (CA _ _ _ _ _) (AN (AN (AN aI (.mulL 10000 (AN aE aA))) aA) (AN (AN bg aA) (AN dm (AN j4 (.num 600000))))) (AN (.num 400000) (AN (.num 100) (AN j4 (AN (.num 2) (AN aI (AN bg dm)))))) (aH b6 (aH q (aH n2 (aH m1 j)))) rfl) λs3 N Y r b3 k3 hr=> ?_;have l3:=k3.len;have H:=(zt C (zf l1));have tr:=((p.rep.wide H (bP _)).keep k3 (O_ m o G)).wide (bP _) l3;have base:∀s ∈ c,Piece lo s2 s.2 s.1 false/\(s.2.length<=11/\s.1.ids.length<=40):=λs g=>⟨(p.seg s g).1.low H,(p.seg s g).2⟩;have f3:∀ms,ms0++flat (aM++c)++ms=ms0++flat (aM++(c++ [(t,ms)])):=λms=>by simp [fk,jB]
  have zl:(ms0++flat (aM++c)).length<600000:=by rw [cC,fk,cC];exact bK λj=>bx (Q0 _ _ _ _ _ _ _) (AN (AN (AN aI (.mulL 10000 (AN aE aA))) aA) (AN (.mulL 11 (AN bg aA)) (AN dm (AN (.mulL 11 j4) (AN K7 (AN (.mulL 11 xV) (.num 600000))))))) (AN (.num 400000) (AN (.mulL 11 (.num 100)) (AN (.mulL 11 bg) (AN (.mulL 11 xV) (AN (.mulL 11 j4) (AN (.mulL 11 (.num 2)) (AN aI (AN dm K7)))))))) (aH Q (aH (fJ 11 q) (aH fl (aH (fJ 11 n2) (aH b0 (aH (fJ 11 m1) j)))))) rfl
  have M:∀{hi:Nat} (i:Nat),lo<=i->i<hi-> ¬M1 L oa i:=O_ m o G
  cases r with
  |none=>
   obtain ⟨rfl,o3⟩:=hr;rw [fK]at b3;refine⟨by decide,bR (ai:= .c t (.no .z)) rfl b3 m (zt (zt H l2) l3) ⟨tr,trivial⟩ (zt zl (zr 300000)) λs4 a g4 k4 b4 r4=> ?_⟩;have HY:=(k2.trans k3).trans k4.m1;simp only [I (k1.m1.trans HY)];refine⟨(zt hl (zr 999900)),?_⟩;dsimp only [au,aa,au,aa,au];have:=P1.add (k:= .e (.mk a (N+1) 36 0 0 (.c t (.no .z)))) m hk G J E HY b4 (k4.keep _ _ A o3 (hT.app (fq _ _)).hit)
    ⟨r4,trivial⟩ (by simp [T.aU,TL.aU,TL.cX,TL.cG,p.nd];exact Pa (zt l3 (zs g4)) λx f=>(tb x f).2) (λx f=>by
     simp [T.aU,TL.aU,TL.cX,TL.cG]at f;rcases f with rfl |f
     .exact zt (zt l2 l3) (zs g4)
     .exact(tb x f).1) (by simpa [T.bF,TL.bF,TL.fy,TL.dY,e0,e1,e2]using p.aP) (by simpa [TL.rZ,TL.vV,TL.r_,T.qQ,TL.sd]using p.ini) (λs g=>⟨((base s g).1.up k3 M).up k4.m1 M,(base s g).2⟩) (by simp [TL.Bh,TL.yb,T.uL,TL.Ot,p.wf]) (by simp [TL.cg,TL.jC,TL.gc,T.cg,TL.jc,TL.ku,TL.iz,p.Cz])
   exact hK _ _ _ _ _ _ this ((up (k1.m1.trans HY)).trans (D _ _)) (by simp;exact dP n2) (by simp [jA,TL.jc,TL.iz]) (by simp [kB,T.aU,TL.aU,TL.cX,TL.cG]<;>exact cD λj=>bx (fL _ _) (AN aE (AN (AN (.num 41) aI) aA)) (AN aI (AN aE aA)) (aH b5 j) rfl)
  |some u=>
   obtain ⟨q3,n3,o3,z3⟩:=hr;have ub:=λx f=>q3.rep.bd x f;have a9:=q3.low (zt H l2);have e5:dI L N (ms0++flat (aM++(c++ [(u,Y)]))) s3:=by
    have e:ms0++flat (aM++c)++Y=ms0++flat (aM++(c++ [(u,Y)])):=by simp [fk,jB]
    rw [<-e];exact b3
   have d3:s3[oa]? =some (.list (os++gH ms0.length (aM++(c++ [(u,Y)])))):=by
    rw [o3,<-fW aM c,oV _ (aM++c)];simp [gH]
   refine⟨by decide,bR (ai:= .d t u) rfl e5 m (zt (zt H l2) l3) ⟨tr,a9.rep,trivial⟩ (by simp [fk,jB]at zl ⊢;exact bK λj=>bx (oJ _ _ _ _) (AN dm (AN (AN (AN aE (AN aI bg)) aA) (.num 900000))) (AN (.num 11) (AN (.num 600000) (AN aE (AN aI (AN bg dm))))) (aH n3 (aH zl j)) rfl) λs4 a g4 k4 b4 r4=> ?_⟩;have HY:=(k2.trans k3).trans k4.m1;simp only [I (k1.m1.trans HY)];refine⟨(zt hl (zr 999900)),?_⟩;dsimp only [au,aa,au,aa,au];have:=P1.add (k:= .e (.mk a (N+1) 36 0 0 (.d t u))) m hk G J E HY b4 (k4.keep _ _ A d3 (hT.app (fq _ _)).hit)
    ⟨r4,trivial⟩ (by
     simp only [T.aU,TL.aU,TL.cG,fK,lG,nc,List.mem_append];refine⟨λh=>h.elim (Pa (zt l3 (zs g4)) λx f=>(tb x f).2) (Pa (zs g4) λx f=>(ub x f).2),p.nd,q3.nd,λx f y hy e=> ?_⟩;have h1:=(tb x f).2;have h2:=(ub y hy).1;exact fV _ (zt h1 (zt h2 (zf e)))) (λx f=>by
     simp [T.aU,TL.aU,TL.cG]at f;rcases f with rfl |f |f
     .exact zt (zt l2 l3) (zs g4)
     .exact(tb x f).1
     .have:=(ub x f).1;exact zt l2 this) (by
     rw [fk,jB,List.map_append];simpa [T.bF,TL.bF,TL.fy,TL.dY,e0,e1,e2]using p.aP.append q3.perm) (by
     simp [TL.rZ,TL.r_,T.qQ,TL.sd];exact(List.Perm.cons u p.ini).trans (List.perm_append_singleton _ _).symm) (λs g=>by
     rcases List.mem_append.mp g with g |g
     .exact⟨((base s g).1.up k3 M).up k4.m1 M,(base s g).2⟩
     .rw [List.mem_singleton.mp g];exact⟨a9.up k4.m1 M,n3,z3⟩) (by simp [TL.Bh,TL.yb,T.uL,TL.Ot,p.wf]) (by simp [TL.cg,TL.gc,T.cg,TL.jc,TL.iz,p.Cz,T.eu u q3.aG])
   exact hK _ _ _ _ _ _ this ((up (k1.m1.trans HY)).trans (D _ _)) (by simp;exact n2) (by simp [jA,TL.jc,TL.iz]) (by simp [kB,T.aU,TL.aU,TL.cG]<;>exact cD λj=>bx (jt _ _ _) (AN aE (AN bg (AN (AN (.num 41) aI) aA))) (AN aI (AN (.num 40) (AN (AN aE bg) aA))) (aH b5 (aH z3 j)) rfl)
end
section
variable{C:aR}{m:Loc}{st:St}{K:KV}
def rK{c a b:IE}(p:Bool)(f:∀e:KV,e (.bool p) st->vE C c m st e)(h:vE C (if p=true then a else b) m st K):vE C (.ite c a b) m st K:=by
 refine f _ ?_;cases p
 .rw [if_neg (by decide)]at h;exact h
 .rw [if_pos rfl]at h;exact h
def CB{x n:Int}{i u v b:Nat}{r:IL}(hb:m[1]? =some (some (.ref b)))(e:m[i]? =some (some (.int x)))(h:∀g,g=u\/g=v->vE C (.call 40 (.k (.l 1) (.g g) r)) m st K):
  vE C (.call 40 (.k (.l 1) (.ite (.cmp .lt (.l i) (.n n)) (.g u) (.g v)) r)) m st K:=by
 have c:=h u (.inl rfl);have a:=h v (.inr rfl);simp only [bq,bV,iU,cJ,d_,D_,aW,hb,e,cv,b_,bz]at c a ⊢;cases decide (x<n)
 .exact a
 .exact c
def bD{lo hi:Nat}{ν:Nat->Int}{t:T}(r:Rep lo hi ν st t):∃w q,(lo<=q/\q<hi)/\st[t.a]? =some (gF t.kind w q t.flags t.at_ (ν t.a))/\st[q]? =some (.list t.ai.aZ):=by
 cases t with
 |mk a at_ k f s ai=>exact r.2.1.elim λw h=>h.elim λq h=>⟨w,q,h.1,h.2.1,h.2.2⟩
def aK{e:IE}{a f:Nat}{k:Nat}{b:List (Nat×V)}{v:V}(g:∀c:KV,c (.ref a) st->vE C e m st c)(l:st[a]? =some (.inst k b))(j:b.lookup f=some v)(h:K v st):vE C (.attr e f) m st K:=by
 refine g _ ?_;simp only [l,j];exact h
end
def aC.fresh{M:Nat->Prop}{ka:Nat}{a b c:St}(k:aC M a b)(k2:aC (λi=>M i\/i=ka) b c)(h:a.length<=ka):aC M a c:=
 ⟨iA k.len k2.len,λi o n e hh=>k2.keep i o (λz=>z.elim n λq=>by have:=aJ e;exact fV _ (zt this (zt h (zf q)))) (k.keep i o n e hh) hh⟩
section
variable{d:Nat}{st st':St}{K:KV}{L:Lay}{aL:Int}{ms0 ms:List Mk}{lo oa ka:Nat}{t:T}{os:List V}
def Ec{KS:KS}{n:Nat}{x A:Int}(IH:vU L oa (d+9) n)(hx:x=n+1)(N:n<=1)(Y:L.b<lo)(hk:ka<lo)(ho:oa<lo)(Q:ka≠oa)(H: ¬M0 L ka)(J: ¬M0 L oa)(hT:oS os)(M:ms0.length+10000*(n+1)<400000)(a0:os.length+10000*(n+1)<400000):
  ∀(bA:List V) (st:St) (aL:Int) (l:TL) (aM:List (T×List Mk)) (h j o:Option V),PL L lo ka oa os ms0 st aL l aM->lo<=st.length->aM.length+(mx n+1)*bA.length<=2*(mx n+1)->l.aZ.length+bA.length<=10->l.ids.length+(41+sz n)*bA.length<=2*(41+sz n)->
  (∀st' g l' eO h j o,PL L lo ka oa os ms0 st' g l' eO->aC (λi=>M1 L oa i\/i=ka) st st'->eO.length<=2*(mx n+1)->l'.ids.length<=2*(41+sz n)->l'.aZ.length<=10->KS .next [some (.ref L.p),some (.ref L.b),some (.ref oa),some (.int x),some (.int A),some (.ref ka),h,j,o] st')->
  bC (λm st k=>vB (aq (d+9)) Eb m st k) (λv m=>some (m.set 6 (some v))) none bA [some (.ref L.p),some (.ref L.b),some (.ref oa),some (.int x),some (.int A),some (.ref ka),h,j,o] st KS:=by
 intro zl
 induction zl with
 |nil=>
  intro st aL l aM h j o P q w u z D;exact⟨trivial,D st aL l aM h j o P (aC.refl _) (by simpa using w) (by simpa using z) (by simpa using u)⟩
 |cons G bA zi=>
  intro st aL l aM h j o P q w u z D;refine⟨trivial,?_⟩;have m1:mx n<=2:=by
   rcases RE N with rfl |rfl<;>decide
  have e:(mx n+1)*(G::bA).length=(mx n+1)*bA.length+(mx n+1):=rfl;have e2:(41+sz n)*(G::bA).length=(41+sz n)*bA.length+(41+sz n):=rfl;simp only [cV]at u;rw [e2]at z;rw [e]at w;refine Ea IH hx N P Y q hk ho Q H J hT M a0 (bK λf=>bx (jt _ _ _) (AN (AN aE (AN aI (AN bg aA))) (AN bg (.num 100))) (AN (.mulL 2 (AN bg aA)) (AN (.num 2) aE)) (aH w (aH m1 f)) rfl) (zt (zt (za (zr _) 1) (za u 1)) (bI rfl)) λst' g l' eO U a1 p k s1 s2 s4=> ?_;exact zi st' g l' eO (some G) U a1 p (iA q k.len) (cD λf=>bx (oJ _ _ _ _) (AN (AN aE (AN aI (AN bg aA))) (AN dm (AN (.mulL 2 (AN bg aA)) aA))) (AN (.mulL 2 (AN bg aA)) (AN (AN aE (AN bg aA)) (AN dm aI))) (aH w (aH s1 f)) rfl) (cD λf=>bx (jt _ _ _) (AN (AN aE (AN aI aA)) (AN bg (AN (.num 10) aA))) (AN (.num 10) (AN (AN aE aA) (AN bg aI))) (aH u (aH (ze s2) f)) rfl) (cD λf=>bx (oJ _ _ _ _) (AN (AN aE (AN aI (AN (.num 41) bg))) (AN dm (AN (.mulL 2 (AN (.num 41) bg)) aA))) (AN (.mulL 2 (AN (.num 41) bg)) (AN (AN aE (AN (.num 41) bg)) (AN dm aI))) (aH z (aH s4 f)) rfl) λI E l2 y a b c p2 k2 s3 s5 s6=>D I E l2 y a b c p2 (k.trans k2) s3 s5 s6
def zY:∀(n:Nat) (d:Nat),n<=2->vU L oa (d+n+9) n:=by
 have name:∀(d:Nat) (st:St) (K:KV) (aL:Int) (ms0:List Mk) (lo:Nat) (os:List V),dI L aL ms0 st->L.b<lo->lo<=st.length->st[oa]? =some (.list os)->oS os-> ¬M0 L oa->ms0.length<500000->
   (∀st' l t aM,dI L l (ms0++flat aM) st'->aC (M1 L oa) st st'->SV lo st' t aM->aM.length<=0->t.ids.length<=1->st'[oa]? =some (.list (os++gH ms0.length aM))->K (.ref t.a) st')->aq (d+4) 41 [.ref L.b,.str 119] st K:=
  λd st K aL ms0 lo os B f j A p q y h=>eB B f j (zt y (zr 400000)) λs a g k b r=>
   h s _ (.mk a (aL+1) 8 0 0 .z) [] (by simpa [flat]using b) k.m1 ⟨r,by simp [T.aU,TL.aU],by simp [flat,T.bF,TL.bF],by simp [T.qQ],λs w=>(by cases w),.inl rfl,by simp [T.uL],by simp [T.cg,TL.cg,TL.jc]⟩ (bP _) (by dsimp only [T.ids,TL.ids];simp) (by simpa [gH]using k.keep _ _ q A p.hit)
 intro n
 induction n with
 |zero=>
  intro d _ st K aL ms0 lo os x z B f j A p q G y Q h;subst z;refine call_in Ib [some (.ref L.p),some (.ref L.b),some (.ref oa),some (.int 0),none,none,none,none,none] ?_ (by decide) rfl rfl rfl;refine rK false (λK' h'=>fU rfl (by decide) h') ?_;apply cj rfl;exact name _ _ _ _ _ _ _ B f j A p q (bK λc=>bx (CC _) (AN (AN (AN aE (.mulL 10000 oW)) aA) (.num 500000)) (AN (.num 400000) aE) (aH y c) rfl) λst' l t aM h1 Y h3 h4 h6 J=>h st' l t aM h1 Y h3 h4 (by simp only [sz];exact h6) J
 |succ n ih=>
  intro d I st K aL ms0 lo os x z B f j A p q G y Q h;have IH:=ih d (zs I);have ed:d+(n+1)+9=(d+n+9)+1:=(iW (cD λc=>bx (fL _ _) (AN (AN (AN (AN aI aE) (.num 9)) aA) aA) (AN (AN aI (AN aE aA)) (.num 9)) c rfl) (cD λc=>bx (fL _ _) (AN (AN (AN aI (AN aE aA)) (.num 9)) aA) (AN (AN (AN aI aE) (.num 9)) aA) c rfl));have o:=B.ord;refine call_in Ib [some (.ref L.p),some (.ref L.b),some (.ref oa),some (.int x),none,none,none,none,none] ?_ (by decide) rfl rfl rfl;have e:Ib= .c (.a 4 (.ite (.cmp .gt (.l 3) (.n 0)) (.V 39 0 5) (.n 0))) (.r (.i (.q 4 0) (.e (.ret (.W 41 1 119)))) (.a 5 .lz) (.gI 6 (.range (.e (.bin .add (.n 1) (.V 39 0 2)))) Eb) (.ret (.call 40 (.q (.l 1) (.ite (.cmp .lt (.l 4) (.n 3)) (.g 16) (.g 15)) (.s 0) (.l 5) (.D 0 0))))):=rfl;refine rK true (λK' h'=>fU rfl (by simp [b_];exact z▸Int.natCast_pos.mpr (Nat.succ_pos n)) h') ?_;refine fH B (by decide) λa9 D h0 J b1 k1 l1=> ?_;have N:=k1.keep _ _ q A p.hit;by_cases hw:a9=0
  .subst hw;apply cj rfl;exact name _ _ _ _ _ _ _ b1 f (zt j (zf l1)) N p q (zt (zt (za (zr _) 1) y) (bI rfl)) λst' l t aM h1 Y h3 h4 h6 J=>h st' l t aM h1 (k1.m1.trans Y) h3 (cD λc=>bx (fL _ _) (AN aE (AN aI aA)) (AN oW aE) (aH h4 c) rfl) (by simp only [sz];exact zt h6 (zr _)) J
  .refine Bf rfl hw ?_;dsimp only [ah];dsimp only [vS,vE,vL,aa,big,cA,cB,cY];refine⟨by decide,?_⟩;dsimp only [ah];dsimp only [vS,vE,vL,vI,jO,binI,two,fR,big,bM];have U:aC (M0 L) D (D++ [O.list []]):=aC.app _ _;refine fH (b1.app _) (by decide) λv s2 g0 g2 b2 k2 l2=> ?_;simp only [cC,cV,cY]at l2;refine⟨(CD (Int.not_le.mp λc=>dJ (fP _) (AI jb (AI ck bH)) (AI bH (.num (-4611686018427387904))) (bE g0 c) rfl) (Int.not_le.mp λc=>dJ (fP _) (AI (AI bH ck) (.num 4611686018427387904)) (AI (.num 2) (AI ck bH)) (bE g2 c) rfl)),?_⟩;have m1:mx n<=2:=by
    rcases RE (Nat.le_of_succ_le_succ I)with rfl |rfl<;>decide
   have b5:=aJ B.vM;have b6:=k2.keep _ _ q (U.keep _ _ q N p.hit) p.hit;have P:PL L (D.length+1) D.length oa os ms0 s2 aL .z []:=⟨by simpa [flat]using b2,k2.keep D.length _ (mw f o _ (zt j (zf l1)) (bP _)) aD (by rfl),by simpa [gH]using b6,trivial,by simp [TL.aU],by simp [flat,TL.bF],by simp [TL.rZ],λs w=>(by cases w),by simp [TL.Bh],by simp [TL.cg]⟩;refine Ec IH z (cD λc=>bx (CC _) (AN (AN aE aA) (AN aA aA)) (AN (.num 2) aE) (aH I c) rfl) (dP (zt b5 (zf l1))) (bP _) (dP (zt (zt G j) (zf l1))) (zg (zt (zt G j) (zf l1))) (mw f o _ (zt j (zf l1)) (bP _)) q p y Q _ s2 aL .z [] none none none P (cD λc=>bx (fL _ _) (AN (AN aE (AN oW aA)) (AN aI aA)) (AN aI (AN aE aA)) (aH (zf l2) c) rfl) (by
     rw [fz];have:(1+v).toNat<=2:=(Int.toNat_le.mpr (Int.not_lt.mp λc=>dJ (fP _) (AI (AI bH ck) (AI (.num 2) ck)) (AI (.num 2) (AI ck bH)) (bE g2 c) rfl));have:=fJ (mx n+1) this;simp;exact cD λc=>bx (fL _ _) (AN aI (AN (.mulL 2 (AN aE aA)) aA)) (AN (.mulR (AN aE aA) 2) aI) (aH this c) rfl) (by rw [fz];simp [TL.jc];exact Int.not_lt.mp λc=>dJ (fP _) (AI (AI bH ck) (AI (.num 10) ck)) (AI (.num 2) (AI ck bH)) (bE g2 c) rfl) (by
     rw [fz];have:(1+v).toNat<=2:=(Int.toNat_le.mpr (Int.not_lt.mp λc=>dJ (fP _) (AI (AI bH ck) (AI (.num 2) ck)) (AI (.num 2) (AI ck bH)) (bE g2 c) rfl));have:=fJ (41+sz n) this;simp [TL.aU];exact cD λc=>bx (fL _ _) (AN aE (AN (.mulL 2 (AN (.num 41) aI)) aA)) (AN (.mulR (AN (.num 41) aI) 2) aE) (aH this c) rfl) λs3 E l3 M v6 v7 v8 P3 k3 n3 a8 a5=> ?_
   have ks:=(k1.m1.trans (U.trans k2).m1).fresh k3 (zf l1);dsimp only [aa,ah,fZ];refine CB rfl rfl λg hg=> ?_;obtain ⟨H,u,eg⟩:∃k:Int,(k=34\/k=35)/\bU g= .int k:=by
    rcases hg with rfl |rfl
    .exact⟨34,.inl rfl,rfl⟩
    .exact⟨35,.inr rfl,rfl⟩
   simp only [bq,bV,iU,cJ,cy,aW,ao,ay,bM,cF,eg];have fl:=f_ λs w=>(P3.seg s w).2.1;have c6:=ks.len;refine iK P3.b f (zt j (zf l1)) P3.ai (P3.rep.wide (dP (zt j (zf l1))) (bP _)) (by decide) (by rw [cC];exact bK λc=>bx (CA _ _ _ _ _) (AN (AN (AN aI (.mulL 10000 (AN aE aA))) aA) (AN (.mulL 22 bg) (AN (.mulL 11 dm) (AN j4 (.num 900000))))) (AN (.num 400000) (AN (.mulL 22 (.num 2)) (AN (.mulL 11 (.mulL 2 (AN bg aA))) (AN (.mulL 11 dm) (AN aI j4))))) (aH y (aH (fJ 22 m1) (aH (fJ 11 n3) (aH fl c)))) rfl) λs4 a hh g4 k4 b4 r4=> ?_;refine h s4 (E+1) (.mk a (E+1) H 0 0 l3) M (by simpa using b4) (ks.trans k4.m1) ⟨r4,?_,?_,?_,λs w=>⟨((P3.seg s w).1.low (dP (zt j (zf l1)))).up k4 (mw f o),(P3.seg s w).2⟩,.inr u,by rw [T.uL,if_neg (RG u),if_pos u];exact P3.wf,by rw [T.cg,P3.Cz];simp;exact zt (za a5 1) (zr 989)⟩ (by simp [mx];exact n3) (by simp [sz,T.aU];exact cD λc=>bx (fL _ _) (AN aE (AN (AN aA (.mulL 2 (AN (.num 41) aI))) aA)) (AN (.mulL 2 (AN (.num 41) aI)) (AN aE aA)) (aH a8 c) rfl) (k4.keep _ _ q P3.out (p.app (fq _ _)).hit)
   .rw [T.aU,lG];exact⟨Pa g4 λx z=>(P3.rep.bd x z).2,P3.nd⟩
   .have:e0 H=true/\e1 H 0=true/\e2 H=true:=by rcases u with rfl |rfl<;>decide
    simpa [T.bF,this.1,this.2.1,this.2.2]using P3.aP
   .have a6:H≠36:=(a_ u (λzo=>(Int.ne_of_lt (Int.not_le.mp λc=>dJ (fP _) (AI bH (.num 36)) (AI (.num 34) bH) (bE (Int.le_of_eq zo) c) rfl))) λzo=>(Int.ne_of_lt (Int.not_le.mp λc=>dJ (fP _) (AI bH (.num 36)) (AI (.num 35) bH) (bE (Int.le_of_eq zo) c) rfl)));rw [T.qQ,if_neg a6,if_pos u];exact P3.ini
end
structure Ed (lo:Nat) (st:St) (n oa:Nat) (t:T) (pat:T) (own:Option T) (flags:Int) (aM:List (T×List Mk)):Prop where
 rep:Rep lo st.length zn st t
 nd:t.ids.Nodup
 shape:∃a at_,t= .mk a at_ 28 flags 0 (.c pat (.no (oX own .z)))
 fl:flags=0\/flags=65536\/flags=131072
 kind:pat.kind=8\/pat.kind=34\/pat.kind=35
 wf:pat.vW=true
 ini:(pat.ini++own.toList).Perm (aM.map (·.1))
 aP:((flat aM).map core).Perm (t.aP true true true)
 seg:∀s ∈ aM,Piece lo st s.2 s.1 false/\(s.2.length<=11/\s.1.ids.length<=40)
 out:st[oa]? =some (.list (gH n aM))
 Ic:lo<=oa/\oa<st.length
 len:aM.length<=7
 size:t.ids.length<=300
 Cz:t.bJ=true
abbrev jD(pat:T)(flags:Int):Bool:=decide (flags>0)&&pat.kind==8
section
variable{d:Nat}{st st':St}{K:KV}{L:Lay}{aL:Int}{ms0 ms:List Mk}{lo oa ka:Nat}{t:T}{os:List V}
def Ef(B:dI L aL ms0 st)(A:L.b<lo)(j:lo<=st.length)(p:ms0.length<300000)
  (h:∀st' U oa t pat own flags aM,dI L U (ms0++flat aM) st'->aC (M0 L) st st'->Ed lo st' ms0.length oa t pat own flags aM->(∀x ∈ t.ids,st.length<=x)->K (.tup [.ref t.a,.ref oa,nu own,.bool (jD pat flags)]) st'):aq (d+12) 54 [.ref L.p,.ref L.b] st K:=by
 refine call_in LV [some (.ref L.p),some (.ref L.b),none,none,none,none,none] ?_ (by decide) rfl rfl rfl;have o:=B.ord;have G:=aJ B.vM;dsimp only [LV,ah];dsimp only [vS,vE,vL,aa,big,cA,cB,cY];refine⟨by decide,?_⟩;dsimp only [ah];dsimp only [vS,vE,vL,aa,bM,cA,cB,Eg,Eh];have b7:aC (M0 L) st (st++ [O.list []]):=aC.app _ _;have I:=mw A o _ j (bP _);refine fH (B.app _) (by decide) λv s1 h0 h4 b1 k1 l1=> ?_;simp only [cC,cV,cY]at l1;have a6:=k1.keep _ _ I aD (by rfl);obtain ⟨fl,N,b6⟩:∃fl:Int,(fl=0\/fl=65536\/fl=131072)/\ [V.int 0,.int 0,.int 65536,.int 131072][v.toNat]? =some (.int fl):=by
  rcases TX h0 h4 with rfl |rfl |rfl |rfl
  .exact⟨0,.inl rfl,rfl⟩
  .exact⟨0,.inl rfl,rfl⟩
  .exact⟨65536,.inr (.inl rfl),rfl⟩
  .exact⟨131072,.inr (.inr rfl),rfl⟩
 dsimp only;rw [b6];refine⟨h0,(Int.not_le.mp λg=>dJ (fP _) (AI (AI bH ck) (.num 4611686018427387904)) (AI (.num 4) bH) (bE h4 g) rfl),?_⟩;dsimp only;refine zY 2 d (bI rfl) s1 _ aL ms0 (st.length+1) [] 2 rfl b1 (dP G) (cD λg=>bx (fL _ _) (AN (AN aE (AN oW aA)) (AN aI aA)) (AN aI (AN aE aA)) (aH (zf l1) g) rfl) a6 (λv hv=>by cases hv) I (bP _) (bK λg=>bx (CC _) (AN (AN aE aA) (.num 400000)) (AN (.num 300000) (AN aE (.mulL 10000 (.num 2)))) (aH p g) rfl) (bI rfl) λs2 d3 pat aM b2 k2 c n2 M o2=> ?_;rw [dw]at o2;have l2:=k2.len;have b0:=f_ λs f=>(c.seg s f).2.1;have b8:mx 2=6:=rfl;rw [b8]at n2;refine ya b2 (zt (zt (zt G (zr _)) (zf l1)) l2) (bP _) o2 (fq _ _) I (bK λg=>bx (jt _ _ _) (AN (AN aE (AN oW aA)) (AN aI bg)) (AN aI (AN bg aE)) (aH (zf l1) (aH l2 g)) rfl) (by rw [cC];exact bK λg=>bx (jt _ _ _) (AN (AN aE aA) (AN (.mulL 11 aI) (AN bg (.num 600000)))) (AN (.num 300000) (AN (.mulL 11 (.num 6)) (AN (.mulL 11 aI) (AN aE bg)))) (aH p (aH (fJ 11 n2) (aH b0 g))) rfl) (by rw [lC];exact zt (za n2 1) (zr 599993)) λm C b5 own b3 k3 hr=> ?_;have l3:=k3.len;have J:∀{hi:Nat} (i:Nat),st.length+1<=i->i<hi-> ¬M1 L st.length i:=O_ (dP G) o (bP _);have D:=(c.rep.keep k3 J).wide (bP _) l3;obtain ⟨w,q,n,c2,d6⟩:=bD D;refine fu (q:=pat.kind==8) (λK h=>fU rfl rfl h) (λK h=> ?_) ?_
 .dsimp only [d_];refine aK (λK' h'=>by rw [bq];exact h') c2 rfl ?_;exact h
 simp only [cA,cB];dsimp only [ah];have Y:=λx b=>(c.rep.bd x b);dsimp only [vS,vE,vL,ao,ay,big,bM,cF,cV,cY,Bj];obtain ⟨eO,d5,z,hb,ho,k,a1,a7,E,c0,bW,H,a0⟩:∃eO,True/\True/\dI L C (ms0++flat eO) m/\m[st.length]? =some (.list (gH ms0.length eO))/\(∀s ∈ eO,Piece lo m s.2 s.1 false/\(s.2.length<=11/\s.1.ids.length<=40))/\(pat.ini++own.toList).Perm (eO.map (·.1))/\
   ((flat eO).map core).Perm ((TL.c pat (.no (oX own .z))).aP true true true)/\cQ lo m.length zn m (.c pat (.no (oX own .z)))/\(TL.c pat (.no (oX own .z))).ids.Nodup/\eO.length<=7/\(TL.c pat (.no (oX own .z))).ids.length<=299/\(TL.c pat (.no (oX own .z))).bJ=true:=by
  have z:sz 2=253:=rfl;have base:∀s ∈ aM,Piece lo m s.2 s.1 false/\(s.2.length<=11/\s.1.ids.length<=40):=λs f=>⟨(((c.seg s f).1).up k3 J).low (dP j),(c.seg s f).2⟩
  cases own with
  |none=>
   obtain ⟨rfl,Q⟩:=hr;exact⟨aM,trivial,trivial,by simpa using b3,Q,base,by simpa using c.ini,by simpa [TL.bF,TL.fy,TL.dY,oX]using c.aP,⟨D.wide (dP j) (bP _),trivial⟩,by simpa [TL.aU,TL.cX,TL.cG,oX]using c.nd,(dP n2),by simp [TL.aU,TL.cX,TL.cG,oX];exact zt (zt M (ze z)) (zr 46),by simp [TL.cg,TL.jC,TL.gc,oX,c.Cz]⟩
  |some u=>
   obtain ⟨l,n3,Q,z3⟩:=hr;have ub:=λx b=>l.rep.bd x b;refine⟨aM++ [(u,b5)],trivial,trivial,?_,?_,?_,?_,?_,⟨D.wide (dP j) (bP _),(l.low (zt (zt (zt j (zr _)) (zf l1)) l2)).rep,trivial⟩,?_,by simp;exact n2,by simp [TL.aU,TL.cX,TL.cG,oX];exact cD λg=>bx (jt _ _ _) (AN aE (AN aI (AN bg (AN (.num 299) aA)))) (AN aI (AN (.num 253) (AN (.num 40) (AN aE bg)))) (aH M (aH (ze z) (aH z3 g))) rfl,by simp [TL.cg,TL.jC,TL.gc,oX,c.Cz,T.eu u l.aG]⟩
   .rw [fk,jB,<-fW];exact b3
   .rw [Q,oV];simp [gH]
   .intro s f;rcases List.mem_append.mp f with f |f
    .exact base s f
    .rw [List.mem_singleton.mp f];exact⟨l.low (zt (zt (zt j (zr _)) (zf l1)) l2),n3,z3⟩
   .simp;exact c.ini.append_right _
   .rw [fk,jB,List.map_append];simpa [TL.bF,TL.fy,TL.dY,oX]using c.aP.append l.perm
   .simp only [TL.aU,TL.cX,TL.cG,oX,fK,nc];refine⟨c.nd,l.nd,λx b y hy e=> ?_⟩;have h1:=(Y x b).2;have h2:=(ub y hy).1;exact fV _ (zt h1 (zt h2 (zf e)))
 have a8:=f_ λs f=>(k s f).2.1;refine⟨by decide,bR (by cases own<;>simp [TL.jc,TL.ku,TL.iz,oX,nu]) hb A (zt (zt j (zs n.1)) (zs n.2)) E (by rw [cC];exact bK λg=>bx (jt _ _ _) (AN (AN aE aA) (AN (.mulL 11 aI) (AN bg (.num 900000)))) (AN (.num 300000) (AN (.mulL 11 (.num 7)) (AN (.mulL 11 aI) (AN aE bg)))) (aH p (aH (fJ 11 bW) (aH a8 g))) rfl) λs4 a g4 k4 b4 r4=> ?_⟩;have l4:=k4.len;have kk:aC (M0 L) st s4:=by
  have LO:=(k1.m1.trans k2).trans k3;exact(aC.fresh b7 LO (bP _)).trans k4
 have b9:∀x ∈(TL.c pat (.no (oX own .z))).ids,st.length<=x:=λx b=>by
  cases own with
  |none=>simp [TL.aU,TL.cX,TL.cG,oX]at b;have:=(Y x b).1;exact zs this
  |some u=>
   simp [TL.aU,TL.cX,TL.cG,oX]at b;rcases b with b |b
   .have:=(Y x b).1;exact zs this
   .have:=(hr.1.rep.bd x b).1;exact zt (zt (zt (zr _) (zf l1)) l2) this
 refine h s4 _ st.length (.mk a (C+1) 28 fl 0 (.c pat (.no (oX own .z)))) pat own fl eO b4 kk
  {rep:=r4,nd:= ?_,shape:=⟨a,_,rfl⟩,fl:=N,kind:=c.kind,wf:=c.wf,ini:=a1,aP:= ?_,seg:=λs f=>⟨(k s f).1.up k4 (mw A o),(k s f).2⟩,out:=k4.keep _ _ I ho (fq _ _).hit,Ic:=⟨j,(zt (zt n.1 (zs n.2)) l4)⟩,len:=bW,size:=by rw [T.aU,cV];exact za H 1,Cz:=by rw [T.cg,a0];cases own<;>exact rfl} ?_
 .rw [T.aU,lG];exact⟨Pa (zs g4) λx b=>(E.bd x b).2,c0⟩
 .have:e0 28=true/\e1 28 fl=true/\e2 28=true:=by rcases N with rfl |rfl |rfl<;>decide
  exact a7
 .intro x b;rw [T.aU]at b;rcases List.mem_cons.mp b with rfl |b
  .exact zt (zt (zs n.1) (zs n.2)) (zs g4)
  .exact b9 x b
end
def ak{st b:St}{a:Nat}{o:O}(p:st <+: b)(h:st[a]? =some o):b[a]? =some o:=by
 obtain ⟨r,rfl⟩:=p;exact bQ h
def fM{st b:St}{a:Nat}{o:O}(p:st <+: b)(h:st.length<=a):st <+: b.set a o:=by
 refine ez p λr c=> ?_;subst c;rw [Bg _ _ h];exact eE _ _
def cE{st a l:St}(p:st <+: a):st <+: a++l:=p.trans (eE _ _)
def aC.pre{st b:St}(p:st <+: b):aC (λa=>False) st b:=⟨p.length_le,λa a a e a=>ak p e⟩
def Rep.pre{lo hi:Nat}{ν:Nat->Int}{st a:St}{t:T}(r:Rep lo hi ν st t)(p:st <+: a):Rep lo hi ν a t:=r.keep (aC.pre p) λb b b=>id
def cQ.pre{lo hi:Nat}{ν:Nat->Int}{st a:St}{t:TL}(r:cQ lo hi ν st t)(p:st <+: a):cQ lo hi ν a t:=r.keep (aC.pre p) λb b b=>id
def set_same{st:St}{a:Nat}{o:O}(h:st[a]? =some o):st.set a o=st:=by
 apply List.ext_getElem?;intro i;by_cases hi:a=i
 .subst hi;rw [bh h,h]
 .rw [j7 hi]
noncomputable def TL.aN:TL->List T
 | .z=>[]
 | .no r=>r.aN
 | .c t r=>t::r.aN
def TL.oY:TL.z.aN=[]:=rfl
def TL.eZ(r:TL):r.no.aN=r.aN:=rfl
def TL.dW(t:T)(r:TL):(TL.c t r).aN=t::r.aN:=rfl
abbrev br(a:List T):List V:=a.map λt=> .ref t.a
theorem kD{lo hi:Nat}{ν:Nat->Int}{st:St}:∀{k:TL},cQ lo hi ν st k->∀t ∈ k.aN,Rep lo hi ν st t
 | .z,_,t,h=>by cases h
 | .no r,x,t,h=>kD (k:=r) x t h
 | .c u r,x,t,h=>by
  rcases List.mem_cons.mp h with rfl |h
  .exact x.1
  .exact kD x.2 t h
def gJ{lo hi:Nat}{ν:Nat->Int}{st:St}{t:T}(r:Rep lo hi ν st t):cQ lo hi ν st t.ai:=by
 cases t;exact r.2.2
def gm(a:List T):Nat:=(a.map λt=>t.ids.length).sum
theorem fC:∀k:TL,gm k.aN=k.ids.length
 | .z=>rfl
 | .no r=>by simp [TL.eZ,TL.cX];exact fC r
 | .c t r=>by
  have:=fC r;simp [gm,TL.dW,TL.cG]at this ⊢;exact iW (cD λa=>bx (fL _ _) (AN aE (AN aI aA)) (AN aI aE) (aH (ze this) a) rfl) (cD λa=>bx (fL _ _) (AN aI (AN aE aA)) (AN aE aI) (aH (zf this) a) rfl)
def dX(t:T):t.ids.length=t.ai.ids.length+1:=by cases t;exact rfl
theorem yc:∀k:TL,k.aN.length<=k.aZ.length
 | .z=>bP _
 | .no r=>by have:=yc r;simp [TL.eZ,TL.ku];exact dP this
 | .c t r=>by have:=yc r;simp [TL.dW,TL.iz];exact this
theorem eU:∀k:TL,k.aN.length<=k.ids.length
 | .z=>bP _
 | .no r=>by have:=eU r;simp [TL.eZ,TL.cX];exact this
 | .c t r=>by
  have c:=eU r;have b:=dX t;simp [TL.dW,TL.cG];exact cD λa=>bx (oJ _ _ _ _) (AN aE (AN (AN dm aA) (AN (AN bg aI) aA))) (AN aI (AN bg (AN aE aA))) (aH c (aH (zf b) a)) rfl
def kE(a b:List T):gm (a++b)=gm a+gm b:=by simp [gm]
section
variable{C:aR}{m:Loc}{st:St}{K:KV}{lo hi:Nat}{ν:Nat->Int}{t:T}
theorem mz{a q x:Nat}{src:List V}(h:x<m.length):∀(k:TL) (ys:List V) (st:St),st[q]? =some (.list src)->q≠a->st[a]? =some (.list ys)->ys.length+k.aN.length<big->K (.ref a) (st.set a (.list (ys++br k.aN)))->
  compLoop (λm st k=>vE C (.l x) m st k) (λm st k=>iB C (.e (.p_ true (.l x))) m st (tr k)) x (some (q,src)) a m k.aZ ys st K
 | .z,ys,st,b,g,e,c,f=>by
  refine⟨b,?_⟩;simp only [TL.oY,br,qg,fK,set_same e]at f;exact f
 | .no r,ys,st,b,g,e,c,f=>by
  dsimp only [TL.aZ,compLoop];refine⟨b,?_⟩;rw [jd];dsimp only [bq,nv];simp only [vN h,Bool.not_true,bz];exact mz h r ys st b g e c f
 | .c t r,ys,st,b,g,e,c,f=>by
  dsimp only [TL.aZ,compLoop];refine⟨b,?_⟩;rw [jd];dsimp only [bq,nv];simp only [vN h,bz];simp only [TL.dW,cV]at c;refine⟨e,(zt (za (zr _) 1) c),mz h r _ _ (aT g.symm b) g (bh e) (by simp;exact bK λj=>bx (jt _ _ _) (AN (AN (AN aE (AN aI aA)) aA) bg) (AN bg (AN (AN aE aA) aI)) (aH c j) rfl) ?_⟩;simpa [TL.oY,TL.eZ,TL.dW,List.set_set]using f
def lH{w x i j:Nat}{c:List V}(g:x<m.length)(e:m[i]? =some (some (.ref w)))(l:m[j]? =some (some (.ref t.a)))(b:st[w]? =some (.list c))(r:Rep lo hi ν st t)(o:∀q,lo<=q->q<hi->q≠w)(a:c.length+t.ai.aN.length<900000)
  (h:K .none ((st++ [O.list (br t.ai.aN)]).set w (O.list (c++br t.ai.aN)))):
  vE C (.extend (.l i) (.comp (.l x) x (.seq (.x j 3)) (.e (.p_ true (.l x))))) m st K:=by
 refine aS (bD r) λu q p e1 e2=> ?_;dsimp only [Pb];simp only [bq,e,b];dsimp only [ig,h_];refine aK (λy h'=>by simp only [bq,l];exact h') e1 (v:= .ref q) rfl ?_;simp only [e2];have f:=aJ e2;have n:=aJ b;refine mz g t.ai [] _ (bQ e2) (zl f) aD (by simp only [cY,big];exact bK λk=>bx (fL _ _) (AN (AN (AN aE aI) aA) (.num 1000000)) (AN (.num 900000) (AN oW aI)) (aH a k) rfl) ?_;rw [rJ];simp only [dw];rw [bQ b,aD];exact⟨⟨(zl n),by simp only [bN,big];exact zt (zs a) (zr 100000)⟩,h⟩
def eW{e:IE}{i:Nat}{k:Int}{v:V}(c:k=(i:Int))(f:∀b:KV,b (.ref t.a) st->vE C e m st b)(r:Rep lo hi ν st t)(g:t.ai.aZ[i]? =some v)(a:i<1000)(h:K v st):vE C (.sub (.attr e 3) (.n k)) m st K:=by
 subst c;refine aS (bD r) λl q j e1 e2=> ?_;refine aK f e1 (v:= .ref q) rfl ?_;dsimp only [bV];simp only [e2];rw [if_neg (LW _),se,g];exact⟨⟨(zm _),(zu (zt a (bI rfl)))⟩,(iT _),h⟩
def bZ{e:IE}{a f g k:Nat}{b:List (Nat×V)}{x y:Int}{op:Be}(j:∀c:KV,c (.ref a) st->vE C e m st c)(n:st[a]? =some (.inst k b))(l:b.lookup f=some (.int x))(o:bU g= .int y)(h:K (.bool (b_ op x y)) st):vE C (.cmp op (.attr e f) (.g g)) m st K:=by
 refine aK j n l ?_;rw [iU,o];cases op<;>exact h
def aj{i:Nat}{v:V}(b:m[i]? =some (some v)):∀a:KV,a v st->vE C (.l i) m st a:=λa h=>by rw [bq];simp only [b];exact h
end
section
variable{d:Nat}{st:St}{K:KV}{lo hi:Nat}{ν:Nat->Int}{t:T}
def sj{fl:Int}(r:Rep lo hi ν st t)(h:K (.bool (Builtin.bitAnd t.flags fl != 0)) st):aq (d+1) 2 [.ref t.a,.int fl] st K:=by
 refine aS (bD r) λb q a e1 e2=> ?_;refine call_in RH [some (.ref t.a),some (.int fl)] ?_ (by decide) rfl rfl rfl;dsimp only [RH,ah];simp only [fZ,bq,bV,Pc,j8,d_,ao,ay,bM,cF,e1,List.lookup];exact h
def uM(g:t.aG=true)(b:t.kind=33):∃u r,t.ai= .c u r/\t.bare=u.bare/\u.aG=true:=by
 cases t with
 |mk a at_ k f s ai=>
  dsimp only [T.kind]at b;subst b;simp only [T.je,cM]at g
  cases ai with
  |z=>simp [HZ,nO]at g
  |no r=>simp [HZ,nO]at g
  |c u r=>
   refine⟨u,r,rfl,rfl,?_⟩;have:=g.2;simp only [TL.kF,cM]at this;exact this.1
def uN(b:t.kind≠33):t.bare=t:=by
 cases t with
 |mk a at_ k f s ai=>simp only [T.kind]at b;rw [T.jE,if_neg b]
def CE{KS:KS}:∀(n:Nat) (t:T),t.ids.length<=n->Rep lo hi ν st t->t.aG=true->KS .next [some (.ref t.bare.a)] st->
  dB (λm st k=>vE (aq d) (.eq (.x 0 1) (.g 0)) m st (tr k)) (λm st k=>vB (aq d) (.e (.a 0 (.S 0 3 0))) m st k) (n+1) [some (.ref t.a)] st KS:=by
 intro zl
 induction zl with
 |zero=>
  intro t h r g c;have:=dX t;exact(bx (fL _ _) (AN aE (AN aI aA)) (AN oW aE) (aH h (zf this)) rfl).elim
 |succ n j=>
  intro t h r g c;refine aS (bD r) λA q z e1 e2=> ?_;refine bZ (aj rfl) e1 (x:=t.kind) rfl (vX) ?_;dsimp only [bz];by_cases b:t.kind=33
  .refine aS (uM g b) λu y f hb p=> ?_;have a:=dX t;rw [f]at a;have o:Rep lo hi ν st u:=by have:=gJ r;rw [f]at this;exact this.1
   have e:b_ .eq t.kind 33=true:=by simp [b_,b]
   rw [e];dsimp only;have w:=dX u;simp only [TL.cG,cC]at a;dsimp only [ah,cL];refine eW (i:=0) (v:= .ref u.a) rfl (aj rfl) r (by rw [f];exact rfl) (bI rfl) ?_;exact j u (cD λl=>bx (oJ _ _ _ _) (AN aE (AN (AN (AN bg dm) aA) (AN aI aA))) (AN (AN aI aA) (AN aE bg)) (aH h (aH (zf a) l)) rfl) o p (hb▸c)
  .have e:b_ .eq t.kind 33=false:=by simp [b_,b]
   rw [e];dsimp only;rw [uN b]at c;exact c
def Bk(r:Rep lo hi ν st t)(g:t.aG=true)(h:K (.ref t.bare.a) st):aq (d+1) 3 [.ref t.a] st K:=by
 refine call_in SW [some (.ref t.a)] ?_ (by decide) rfl rfl rfl;refine⟨t.ids.length+1,CE _ t (bP _) r g ?_⟩;exact h
def yd:∀(n:Nat) {t:T},t.ids.length<=n->Rep lo hi ν st t->t.aG=true->Rep lo hi ν st t.bare/\t.bare.aG=true:=by
 intro zl
 induction zl with
 |zero=>
  intro t b r g;have:=dX t;exact(bx (fL _ _) (AN aE (AN aI aA)) (AN oW aE) (aH b (zf this)) rfl).elim
 |succ n k=>
  intro t b r g;by_cases c:t.kind=33
  .refine aS (uM g c) λu l e hb j=> ?_;have h:Rep lo hi ν st u:=by have:=gJ r;rw [e]at this;exact this.1
   have a:=dX t;rw [e]at a;simp only [TL.cG,cC]at a;rw [hb];exact k (cD λf=>bx (oJ _ _ _ _) (AN aE (AN (AN (AN bg dm) aA) (AN aI aA))) (AN (AN aI aA) (AN aE bg)) (aH b (aH (zf a) f)) rfl) h j
  .rw [uN c];exact⟨r,g⟩
def ji(t:T):Bool:=t.kind==18&&Ei t.ai
def Ej(r:Rep lo hi ν st t)(g:t.aG=true)(h:K (.bool (ji t)) st):aq (d+2) 32 [.ref t.a] st K:=by
 refine aS (bD r) λD q y e1 e2=> ?_;refine call_in Ek [some (.ref t.a)] ?_ (by decide) rfl rfl rfl;dsimp only [Ek,ah,fZ,sq,nP];refine bZ (aj rfl) e1 (x:=t.kind) rfl (vY) ?_;by_cases b:t.kind=18
 .have e:b_ .eq t.kind 18=true:=by simp [b_,b]
  rw [e];dsimp only [bY];obtain ⟨u,j,l,p⟩:∃u j,t.ai= .c u j/\u.aG=true:=by
   cases t with
   |mk a at_ k f s ai=>
    dsimp only [T.kind]at b;subst b;simp only [T.je,cM]at g
    cases ai with
    |z=>simp [HZ,nO]at g
    |no r=>simp [HZ,nO]at g
    |c u j=>
     have:=g.2;simp only [TL.kF,cM]at this;exact⟨u,j,rfl,this.1⟩
  have o:Rep lo hi ν st u:=by have:=gJ r;rw [l]at this;exact this.1
  refine cR (yd _ (bP _) o p) λrb n=> ?_;refine aS (bD rb) λA qb n w n=> ?_;dsimp only [jd];refine bZ (a:=u.bare.a) (λE h'=> ?_) w (x:=u.bare.kind) rfl (mD) ?_
  .dsimp only [cJ,aW];refine eW (i:=0) (v:= .ref u.a) rfl (aj rfl) r (by rw [l];exact rfl) (bI rfl) ?_;dsimp only [cy];exact Bk o p h'
  .dsimp only [ao,ay];have:ji t=(u.bare.kind==10):=by simp [ji,b,l,Ei]
   rw [show b_ .eq u.bare.kind 10=(u.bare.kind==10)from rfl,<-this];exact h
 .have e:b_ .eq t.kind 18=false:=by simp [b_,b]
  rw [e];dsimp only [bY];dsimp only [ao,ay];have:ji t=false:=by simp [ji,b]
  rw [<-this];exact h
end
structure SK (st:St) (lo hi:Nat) (ν:Nat->Int) (w:Nat) (ts:List T) (cur:St):Prop where
 pre:st <+: cur
 stk:cur[w]? =some (.list (br ts))
 w0:st.length<=w
 hi0:hi<=st.length
 rep:∀t ∈ ts,Rep lo hi ν st t
section
variable{st cur:St}{lo hi w u:Nat}{ν:Nat->Int}{ts rest new:List T}{t:T}{C:aR}{m:Loc}{K:KV}
def SK.pop(S:SK st lo hi ν w (rest++ [t]) cur):SK st lo hi ν w rest (cur.set w (.list (br rest))):=⟨fM S.pre S.w0,bh S.stk,S.w0,S.hi0,λx a=>S.rep x (by simp [a])⟩
def SK.push(S:SK st lo hi ν w ts cur)(b:∀t ∈ new,Rep lo hi ν st t):SK st lo hi ν w (ts++new) (cur.set w (.list (br ts++br new))):=⟨fM S.pre S.w0,by rw [bh S.stk];simp [br],S.w0,S.hi0,λx a=>(List.mem_append.mp a).elim (S.rep x) (b x)⟩
def SK.other(S:SK st lo hi ν w ts cur){a:Nat}{o:O}(b:a≠w)(c:st.length<=a):SK st lo hi ν w ts (cur.set a o):=⟨fM S.pre c,aT b S.stk,S.w0,S.hi0,S.rep⟩
def SK.app(S:SK st lo hi ν w ts cur)(l:St):SK st lo hi ν w ts (cur++l):=⟨cE S.pre,bQ S.stk,S.w0,S.hi0,S.rep⟩
def SK.top(S:SK st lo hi ν w (rest++ [t]) cur):Rep lo hi ν st t:=S.rep t (by simp)
def SK.ai(r:Rep lo hi ν st t):∀x ∈ t.ai.aN,Rep lo hi ν st x:=kD (gJ r)
def e7{KS:KS}{vb:Loc->St->Mine.KS->Prop}{n i:Nat}(S:SK st lo hi ν w ts cur)(g:m[i]? =some (some (.ref w)))(b:ts=[]->KS .next m cur)
  (a:∀rest t,ts=rest++ [t]->vb m cur (cS (λm st=>dB (λm st k=>vE C (.l i) m st (tr k)) vb n m st KS) KS)):dB (λm st k=>vE C (.l i) m st (tr k)) vb (n+1) m cur KS:=by
 dsimp only [lI];simp only [bq,g,tr,bY,S.stk];refine a_ (List.eq_nil_or_concat ts) (λc=> ?_) λf=> ?_
 any_goals subst c
 any_goals obtain ⟨r,t,rfl⟩:=f
 .exact b rfl
 .simp only [List.concat_eq_append]at a ⊢;have e:(br (r++ [t])).isEmpty=false:=by simp [br]
  rw [e];exact a r t rfl
def nQ{i:Nat}(S:SK st lo hi ν w (rest++ [t]) cur)(a:m[i]? =some (some (.ref w)))(h:K (.ref t.a) (cur.set w (.list (br rest)))):vE C (.pop (.l i)) m cur K:=by
 dsimp only [D8,bq];simp only [a,S.stk];have e1:(br (rest++ [t])).getLast? =some (.ref t.a):=by simp [br]
 have e2:(br (rest++ [t])).dropLast=br rest:=by simp [br]
 rw [e1,e2];exact h
def vZ{i j:Nat}{done:List T}(a:m[i]? =some (some (.ref u)))(e:m[j]? =some (some (.ref t.a)))(b:cur[u]? =some (.list (br done)))(c:done.length<900000)(h:K .none (cur.set u (.list (br (done++ [t]))))):vE C (.append (.l i) (.l j)) m cur K:=by
 dsimp only [iV];simp only [bq,a,b,e];refine⟨by simp only [bN,big];exact zt c (zr 100000),?_⟩;simpa [br]using h
noncomputable def TL.fX:TL->List (Option T)
 | .z=>[]
 | .no r=>none::r.fX
 | .c t r=>some t::r.fX
def TL.RI:TL.z.fX=[]:=rfl
def TL.zZ(r:TL):r.no.fX=none::r.fX:=rfl
def TL.z6(t:T)(r:TL):(TL.c t r).fX=some t::r.fX:=rfl
theorem eV:∀k:TL,k.aZ=k.fX.map nu
 | .z=>rfl
 | .no r=>by simp [TL.ku,TL.zZ,eV r,nu]
 | .c t r=>by simp [TL.iz,TL.z6,eV r,nu]
theorem iC:∀k:TL,k.aN=k.fX.filterMap id
 | .z=>rfl
 | .no r=>by simp [TL.eZ,TL.zZ,iC r]
 | .c t r=>by simp [TL.dW,TL.z6,iC r]
def sr{KS:KS}{q:Nat}{src:List V}{a b c:Option V}{n:Loc}(J:q<st.length)(G:st[q]? =some (.list src)):∀(os:List (Option T)) (ts:List T) (cur:St) (h:Option V),SK st lo hi ν w ts cur->(∀t,some t ∈ os->Rep lo hi ν st t)->ts.length+(os.filterMap id).length<900000->
  (∀g h,SK st lo hi ν w (ts++os.filterMap id) g->(∀x,x≠w->g[x]? =cur[x]?)->KS .next (a::b::some (.ref w)::c::h::n) g)->
  bC (λm st k=>vB C CF m st k) (λv m=>some (m.set 4 (some v))) (some (q,src)) (os.map nu) (a::b::some (.ref w)::c::h::n) cur KS:=by
 intro zl
 induction zl with
 |nil=>
  intro ts cur h S y j p;simp only [qg,uO];exact⟨ak S.pre G,p cur h (by simpa using S) λD D=>rfl⟩
 |cons o os H=>
  intro ts cur h S y j p;simp only [cP,uP];refine⟨ak S.pre G,?_⟩;dsimp only [CF,ah]
  cases o with
  |none=>
   simp only [List.filterMap_cons_none (f:=id) (a:=(none:Option T)) (l:=os) rfl]at j;refine aV false (λI h'=>by simp only [bq,nv,nu,cB,cA,cF,bM];exact h') ?_;rw [if_neg (by decide),au,aa,au,aQ];exact H ts cur _ S (λt A=>y t (.tail _ A)) j λg h E e=>p g h (by simpa using E) e
  |some t=>
   simp only [List.filterMap_cons_some (f:=id) (a:=some t) (l:=os) (b:=t) rfl,cV]at j;refine aV true (λI h'=>by simp only [bq,nv,nu,cB,cA,cF,bM];exact h') ?_;rw [if_pos rfl,ah,gy,iV];simp only [bq,nu,cB,cA,cF,bM,S.stk];refine⟨by simp only [bN,big];exact zt (zt (za (zr _) 1) j) (bI rfl),?_⟩;dsimp only [aa,au,aa,au,aQ];have E:=S.push (new:=[t]) (λx z=>by rw [List.mem_singleton.mp z];exact y t cW);refine H (ts++ [t]) _ _ E (λt A=>y t (.tail _ A)) (by simp;exact bK λD=>bx (fL _ _) (AN (AN (AN aE (AN aI aA)) aA) (.num 900000)) (AN (.num 900000) (AN (AN aE aA) aI)) (aH j D) rfl) λg h S2 e=>p g h (by simpa using S2) λx z=>(e x z).trans (j7 z.symm)
def rL{e:IE}{a f j k:Nat}{b:List (Nat×V)}{x y:Int}{op:Be}(g:∀c:KV,c (.ref a) cur->vE C e m cur c)(n:cur[a]? =some (.inst k b))(l:b.lookup f=some (.int x))(o:m[j]? =some (some (.int y)))(h:K (.bool (b_ op x y)) cur):vE C (.cmp op (.attr e f) (.l j)) m cur K:=by
 dsimp only [d_];refine aK g n l ?_;dsimp only [bq];simp only [o];cases op<;>exact h
end
mutual
def T.dir:T->List Nat
 | .mk a _ k _ _ ai=>a::(if e0 k then ai.dir else [])
def TL.dir:TL->List Nat
 | .z=>[]
 | .no r=>r.dir
 | .c t r=>t.dir++r.dir
end
def T.lJ(a:Nat)(at_ k flags sort:Int)(ai:TL):(T.mk a at_ k flags sort ai).dir=a::if e0 k=true then ai.dir else []:=rfl
def TL.lJ:TL.z.dir=[]:=rfl
def TL.El(r:TL):r.no.dir=r.dir:=rfl
def TL.ye(t:T)(r:TL):(TL.c t r).dir=t.dir++r.dir:=rfl
theorem mE:∀k:TL,k.dir=(k.aN.map T.dir).flatten
 | .z=>rfl
 | .no r=>by rw [TL.El,TL.eZ];exact mE r
 | .c t r=>by rw [TL.ye,TL.dW,cP,iX,mE r]
noncomputable def met(ν:Nat->Int)(nid:Int)(l:List Nat):Bool:=l.any λx=>ν x==nid
def iL{ν:Nat->Int}{nid:Int}(a b:List Nat):met ν nid (a++b)=(met ν nid a||met ν nid b):=by simp [met]
def dz(ts:List T):List Nat:=(ts.map T.dir).flatten
def K8{t:T}(h:e0 t.kind=true):t.dir=t.a::dz t.ai.aN:=by
 cases t with
 |mk a at_ k f s ai=>
  have h':e0 k=true:=h;rw [T.lJ,if_pos h',mE];rfl
def K9{t:T}(h:e0 t.kind=false):t.dir=[t.a]:=by
 cases t with
 |mk a at_ k f s ai=>
  have h': ¬e0 k=true:=by have:e0 k=false:=h;simp [this]
  rw [T.lJ,if_neg h'];rfl
def su(t:T):∃l,t.dir=t.a::l:=by
 cases t with
 |mk a at_ k f s ai=>exact⟨_,by rw [T.lJ];rfl⟩
def dc(t:T)(l:List T):gm (l++ [t])=gm l+t.ai.ids.length+1:=by simp [gm,dX];exact iW (cD λa=>bx (fL _ _) (AN (AN (AN aE aI) aA) aA) (AN aE (AN aI aA)) a rfl) (cD λa=>bx (fL _ _) (AN (AN aE (AN aI aA)) aA) (AN (AN aE aI) aA) a rfl)
section
variable{d:Nat}{st:St}{K:KV}{lo hi:Nat}{ν:Nat->Int}{t:T}{nid:Int}
def Ie{C:aR}{KS:KS}{w:Nat}{E:Option V}{I:Option V}:∀(n:Nat) (ts:List T) (cur:St) (f:Option V),gm ts<=n->gm ts<500000->SK st lo hi ν w ts cur->
  (∀a m',st <+: a->met ν nid (dz ts)=true->KS (.ret (.bool true)) m' a)->(∀a f,st <+: a->met ν nid (dz ts)=false->KS .next [I,some (.int nid),some (.ref w),f,E] a)->
  dB (λm st k=>vE C (.l 2) m st (tr k)) (λm st k=>vB C RJ m st k) (n+1) [I,some (.int nid),some (.ref w),f,E] cur KS:=by
 intro zl
 induction zl with
 |zero=>
  intro ts cur f g hb S z j;refine e7 S rfl (λe=>j cur f S.pre (by subst e;rfl)) λrest t e=> ?_;subst e;rw [dc]at g hb;exact(yf _ g).elim
 |succ n G=>
  intro ts cur f g hb S z j;refine e7 S rfl (λe=>j cur f S.pre (by subst e;rfl)) λrest t e=> ?_;subst e;rw [dc]at g hb;dsimp only [RJ,ah,cL];refine nQ S rfl ?_;simp only [cB,cA,aa];have S1:=S.pop;refine aS (bD (S.top.pre S1.pre)) λwd q hq e1 e2=> ?_;have A:dz (rest++ [t])=dz rest++t.dir:=by simp [dz]
  dsimp only [ah];refine aV (ν t.a==nid) (λY h'=>rL (aj rfl) e1 rfl rfl h') ?_;by_cases y:ν t.a=nid
  .rw [if_pos (by simp [y]),ah,fZ,bV];dsimp only [ao,ao,jQ];exact z _ _ S1.pre (by obtain ⟨l,Q⟩:=su t;rw [A,iL,Q];simp [met,y])
  .rw [if_neg (by simp [y]),au,aa,ah];refine aV (e0 t.kind) (λY h'=>fu (λK h=>bZ (aj rfl) e1 rfl jV h) (λK h=>bZ (aj rfl) e1 rfl kG h) (by simpa [e0,b_,bne]using h')) ?_;have D:(ν t.a==nid)=false:=by simp [y]
   cases hk:e0 t.kind
   .rw [if_neg (by decide),au,aa,au,aQ];have o:met ν nid (dz (rest++ [t]))=met ν nid (dz rest):=by rw [A,iL,K9 hk];simp [met,y]
    exact G rest _ _ (cD λb=>bx (jt _ _ _) (AN (AN (AN aE aI) aA) (AN bg aA)) (AN (AN bg aA) aE) (aH g b) rfl) (zt (za (zr _) 1) (zs hb)) S1 (λc m p h=>z c m p (o▸h)) λc v p h=>j c v p (o▸h)
   .rw [if_pos rfl,ah,gy];have L:=eU t.ai;have U:rest.length<=gm rest:=by
     have:∀l:List T,l.length<=gm l:=λl=>by
      induction l with
      |nil=>exact bP _
      |cons x l J=>have:=dX x;simp [gm]at J ⊢;exact cD λb=>bx (oJ _ _ _ _) (AN aE (AN (AN dm aA) (AN (AN bg aI) aA))) (AN aI (AN bg (AN aE aA))) (aH J (aH (zf this) b)) rfl
     exact this rest
    refine lH (bI rfl) rfl rfl S1.stk (S.top.pre S1.pre) (λq b h=>by have M:=S.w0;have N:=S.hi0;exact zl (zt (zt h N) M)) (by simp;exact bK λb=>bx (oJ _ _ _ _) (AN (AN (AN aE aI) (.num 2)) (AN bg (AN dm (.num 900000)))) (AN (.num 500000) (AN aI (AN aE (AN dm bg)))) (aH hb (aH L (aH U b))) rfl) ?_;dsimp only [aa,au,aa,au,aQ];have S2:=(S1.app [O.list (br t.ai.aN)]).push (SK.ai S.top);have o:met ν nid (dz (rest++ [t]))=met ν nid (dz (rest++t.ai.aN)):=by
     rw [A,iL,K8 hk];have:dz (rest++t.ai.aN)=dz rest++dz t.ai.aN:=by simp [dz]
     rw [this,iL];simp [met,D]
    have H:gm (rest++t.ai.aN)=gm rest+t.ai.ids.length:=by rw [kE,fC]
    exact G (rest++t.ai.aN) _ _ (cD λb=>bx (oJ _ _ _ _) (AN (AN (AN aE aI) aA) (AN dm (AN bg aA))) (AN (AN bg aA) (AN (AN aE aI) dm)) (aH g (aH (ze H) b)) rfl) (zt (za (ze H) 1) (zs hb)) S2 (λc m p h=>z c m p (o▸h)) λc v p h=>j c v p (o▸h)
def Em(r:Rep lo hi ν st t)(hh:hi<=st.length)(g:t.ids.length<400000)(h:∀b,st <+: b->K (.bool (met ν nid t.dir)) b):aq (d+1) 15 [.ref t.a,.int nid] st K:=by
 refine call_in LY [some (.ref t.a),some (.int nid),none,none,none] ?_ (by decide) rfl rfl rfl;rw [LY,ah];dsimp only [vS,vE,vL,aa,big,bM,cA,cB,cV,cY];refine⟨by decide,?_⟩;dsimp only [ah,Bl];have S:SK st lo hi ν st.length [t] (st++ [.list [V.ref t.a]]):=⟨eE _ _,aD,bP _,hh,λx f=>by rw [List.mem_singleton.mp f];exact r⟩;have e2:dz [t]=t.dir:=(fK _);have e:gm [t]=t.ids.length:=rfl;refine⟨gm [t]+1,Ie _ [t] _ _ (bP _) (zt (zt (za (ze e) 1) g) (zr 100000)) S (λc m p a=> ?_) λc v p a=> ?_⟩
 .rw [e2]at a;rw [ao,ay,<-a];exact h c p
 .rw [e2]at a;rw [aa,ah,fZ,bV,ao,ay,<-a];exact h c p
end
section
variable{C:aR}{m:Loc}{st cur:St}{K:KV}{lo hi:Nat}{ν:Nat->Int}{t:T}
def CG{x j:Nat}(f:x<m.length)(c:m[j]? =some (some (.ref t.a)))(r:Rep lo hi ν st t)(a:t.ai.aN.length<900000)(h:K (.ref st.length) (st++ [O.list (br t.ai.aN)])):
  vE C (.comp (.l x) x (.seq (.x j 3)) (.e (.p_ true (.l x)))) m st K:=by
 refine aS (bD r) λk q g e1 e2=> ?_;have e:=aJ e2;dsimp only [ig,h_];refine aK (aj c) e1 rfl ?_;simp only [e2];refine mz f t.ai [] _ (bQ e2) (zl e) aD (by simp only [cY,big];exact bK λb=>bx (CC _) (AN (AN aE aA) (.num 1000000)) (AN (.num 900000) (AN oW aE)) (aH a b) rfl) ?_;rw [rJ];exact h
def Bm{x y:IE}{p q:Bool}(a:∀K:KV,K (.bool p) st->vE C x m st K)(b:∀K:KV,K (.bool q) st->vE C y m st K)(h:K (.bool (p||q)) st):vE C (.qP (.d x y)) m st K:=by
 dsimp only [xZ,uJ];refine a _ ?_;cases p
 .show CH C (.e y) m st K;dsimp only [x9];exact b _ h
 .exact h
def v9{x y:IE}{i:Int}{l:List V}{a:List Int}(e:∀K:KV,K (.int i) st->vE C x m st K)(c:∀K:KV,K (.tup l) st->vE C y m st K)(b:gK l=some a)(h:K (.bool (a.contains i)) st):vE C (.D0 x y) m st K:=by
 dsimp only [K_];refine e _ (c _ ?_);simp only [b];exact h
def sA{e:IE}{a f k:Nat}{b:List (Nat×V)}{v:V}(g:∀c:KV,c (.ref a) st->vE C e m st c)(l:st[a]? =some (.inst k b))(j:b.lookup f=some v):∀K:KV,K v st->vE C (.attr e f) m st K:=λK h=>aK g l j h
end
def mF(l:List T):l.length<=gm l:=by
 induction l with
 |nil=>exact bP _
 |cons x l a=>have:=dX x;simp [gm]at a ⊢;exact cD λb=>bx (oJ _ _ _ _) (AN aE (AN (AN dm aA) (AN (AN bg aI) aA))) (AN aI (AN bg (AN aE aA))) (aH a (aH (zf this) b)) rfl
theorem oZ:∀k:TL,k.fX.length=k.aZ.length
 | .z=>rfl
 | .no r=>by simp [TL.zZ,TL.ku,oZ r]
 | .c t r=>by simp [TL.z6,TL.iz,oZ r]
def o_{lo hi:Nat}{ν:Nat->Int}{st:St}{k:TL}(h:cQ lo hi ν st k):∀t,some t ∈ k.fX->Rep lo hi ν st t:=λt a=>kD h t (by rw [iC];exact List.mem_filterMap.mpr ⟨_,a,rfl⟩)
def pe(k:TL):k.fX.reverse.filterMap id=k.aN.reverse:=by rw [List.filterMap_reverse,iC]
def sC(k:TL):(k.fX.filterMap id).length<=k.ids.length:=by rw [<-iC];exact eU k
def sD(k:TL):(k.fX.reverse.filterMap id).length<=k.ids.length:=by rw [pe,List.length_reverse];exact eU k
section
variable{d:Nat}{st:St}{K:KV}{lo hi:Nat}{ν:Nat->Int}{t:T}{nid:Int}
def Ig{C:aR}{KS:KS}{w:Nat}{U L:Option V}:∀(n:Nat) (o:List T) (cur:St) (g f:Option V),gm o<=n->gm o<500000->SK st lo hi ν w o cur->
  (∀b m',st <+: b->met ν nid (dz o)=true->KS (.ret (.bool true)) m' b)->(∀b g f,st <+: b->met ν nid (dz o)=false->KS .next [U,some (.int nid),some (.ref w),g,f,L] b)->
  dB (λm st k=>vE C (.l 2) m st (tr k)) (λm st k=>vB C RK m st k) (n+1) [U,some (.int nid),some (.ref w),g,f,L] cur KS:=by
 intro zl
 induction zl with
 |zero=>
  intro o cur g f u hb S D x;refine e7 S rfl (λe=>x cur g f S.pre (by subst e;rfl)) λa t e=> ?_;subst e;rw [dc]at u hb;exact(yf _ u).elim
 |succ n N=>
  intro o cur g f u hb S D x;refine e7 S rfl (λe=>x cur g f S.pre (by subst e;rfl)) λa t e=> ?_;subst e;rw [dc]at u hb;dsimp only [RK,ah,cL];refine nQ S rfl ?_;simp only [cB,cA,aa];have S1:=S.pop;refine aS (bD (S.top.pre S1.pre)) λwd q hq e1 e2=> ?_;refine aS (bD S.top) λj q0 a6 M A=> ?_;have E:dz (a++ [t])=dz a++t.dir:=by simp [dz]
  dsimp only [ah];refine aV (ν t.a==nid) (λK' h'=>rL (aj rfl) e1 rfl rfl h') ?_;by_cases z:ν t.a=nid
  .rw [if_pos (by simp [z]),ah,fZ,bV];dsimp only [ao,ao,jQ];exact D _ _ S1.pre (by obtain ⟨l,hl⟩:=su t;rw [E,iL,hl];simp [met,z])
  .rw [if_neg (by simp [z]),au,aa,ah];refine aV (e0 t.kind) (λK' h'=>fu (λK h=>bZ (aj rfl) e1 rfl kG h) (λK h=>bZ (aj rfl) e1 rfl jV h) (by rw [Bool.and_comm];simpa [e0,b_,bne]using h')) ?_;have J:(ν t.a==nid)=false:=by simp [z]
   cases hk:e0 t.kind
   .rw [if_neg (by decide),au,aa,au,aQ];have y:met ν nid (dz (a++ [t]))=met ν nid (dz a):=by rw [E,iL,K9 hk];simp [met,z]
    exact N a _ _ _ (cD λj=>bx (jt _ _ _) (AN (AN (AN aE aI) aA) (AN bg aA)) (AN (AN bg aA) aE) (aH u j) rfl) (zt (za (zr _) 1) (zs hb)) S1 (λc m p h=>D c m p (y▸h)) λc v G p h=>x c v G p (y▸h)
   .rw [if_pos rfl,ah,iu,h_];refine aK (aj rfl) e1 rfl ?_;simp only [e2,eV];have Y:=sC t.ai;have rl:=mF a;have I:=aJ A;have qq:q=q0:=by
     have H:=ak S1.pre M;rw [e1]at H;simp at H;exact H.2
    subst qq;rw [eV]at A;refine sr I A t.ai.fX a _ _ S1 (o_ (gJ S.top)) (bK λj=>bx (oJ _ _ _ _) (AN (AN (AN aE aI) (.num 2)) (AN bg (AN dm (.num 900000)))) (AN (.num 500000) (AN aI (AN aE (AN dm bg)))) (aH hb (aH Y (aH rl j))) rfl) λb f S2 j=> ?_;dsimp only [aa,au,aa,au,aQ];rw [<-iC]at S2;have y:met ν nid (dz (a++ [t]))=met ν nid (dz (a++t.ai.aN)):=by
     rw [E,iL,K8 hk];have:dz (a++t.ai.aN)=dz a++dz t.ai.aN:=by simp [dz]
     rw [this,iL];simp [met,J]
    have Q:gm (a++t.ai.aN)=gm a+t.ai.ids.length:=by rw [kE,fC]
    exact N (a++t.ai.aN) _ _ _ (cD λj=>bx (oJ _ _ _ _) (AN (AN (AN aE aI) aA) (AN dm (AN bg aA))) (AN (AN bg aA) (AN (AN aE aI) dm)) (aH u (aH (ze Q) j)) rfl) (zt (za (ze Q) 1) (zs hb)) S2 (λc m p h=>D c m p (y▸h)) λc v G p h=>x c v G p (y▸h)
def En(r:Rep lo hi ν st t)(hh:hi<=st.length)(f:t.ids.length<400000)(h:∀a,st <+: a->K (.bool (met ν nid (dz t.ai.aN))) a):aq (d+1) 10 [.ref t.a,.int nid] st K:=by
 refine call_in LZ [some (.ref t.a),some (.int nid),none,none,none,none] ?_ (by decide) rfl rfl rfl;have g:=eU t.ai;have e:=dX t;rw [LZ,ah,cL];refine CG (bI rfl) rfl r (zt (zt (zt (za g 1) (zf e)) (zs f)) (zr 500000)) ?_;simp only [cB,cA,aa];dsimp only [ah,Bl];have S:SK st lo hi ν st.length t.ai.aN (st++ [.list (br t.ai.aN)]):=⟨eE _ _,aD,bP _,hh,SK.ai r⟩;have j:gm t.ai.aN=t.ai.ids.length:=fC _;refine⟨gm t.ai.aN+1,Ig _ t.ai.aN _ _ _ (bP _) (zt (zt (zt (za (ze j) 1) (zf e)) (zs f)) (zr 100000)) S (λc m p b=> ?_) λc v k p b=> ?_⟩
 .rw [ao,ay,<-b];exact h c p
 .rw [aa,ah,fZ,bV,ao,ay,<-b];exact h c p
end
mutual
noncomputable def T.gM:T->List T
 | .mk a at_ k f s ai=>(if ji (.mk a at_ k f s ai)=true then [.mk a at_ k f s ai]else [])++(if e1 k f=true then ai.qi else [])
noncomputable def TL.qi:TL->List T
 | .z=>[]
 | .no r=>r.qi
 | .c t r=>t.gM++r.qi
end
def T.z7(a:Nat)(at_ k f s:Int)(ai:TL):(T.mk a at_ k f s ai).gM=(if ji (T.mk a at_ k f s ai)=true then [T.mk a at_ k f s ai]else [])++if e1 k f=true then ai.qi else []:=rfl
def TL.Eo:TL.z.qi=[]:=rfl
def TL.z8(r:TL):r.no.qi=r.qi:=rfl
def TL.z9(t:T)(r:TL):(TL.c t r).qi=t.gM++r.qi:=rfl
mutual
noncomputable def T.uy:T->List T
 | .mk a at_ k f s ai=>if k=52 then [.mk a at_ k f s ai]else if e0 k=true then ai.rq else []
noncomputable def TL.rq:TL->List T
 | .z=>[]
 | .no r=>r.rq
 | .c t r=>t.uy++r.rq
end
def T.Ep(a:Nat)(at_ k f s:Int)(ai:TL):(T.mk a at_ k f s ai).uy=if k=52 then [T.mk a at_ k f s ai]else if e0 k=true then ai.rq else []:=rfl
def TL.RL:TL.z.rq=[]:=rfl
def TL.Er(r:TL):r.no.rq=r.rq:=rfl
def TL.Es(t:T)(r:TL):(TL.c t r).rq=t.uy++r.rq:=rfl
noncomputable def jF(k:Int):Bool:=[25,22,21].contains k|| [18,19,16,17,34,35,15].contains k
mutual
noncomputable def T.j9:T->List T
 | .mk a at_ k f s ai=>(if jF k=true then [.mk a at_ k f s ai]else [])++(if e2 k=true then ai.j_ else [])
noncomputable def TL.j_:TL->List T
 | .z=>[]
 | .no r=>r.j_
 | .c t r=>t.j9++r.j_
end
def T.Bo(a:Nat)(at_ k f s:Int)(ai:TL):(T.mk a at_ k f s ai).j9=(if jF k=true then [T.mk a at_ k f s ai]else [])++if e2 k=true then ai.j_ else []:=rfl
def TL.Ih:TL.z.j_=[]:=rfl
def TL.Bp(r:TL):r.no.j_=r.j_:=rfl
def TL.Bq(t:T)(r:TL):(TL.c t r).j_=t.j9++r.j_:=rfl
theorem v_:∀k:TL,k.qi=(k.aN.map T.gM).flatten
 | .z=>rfl
 | .no r=>by rw [TL.z8,TL.eZ];exact v_ r
 | .c t r=>by rw [TL.z9,TL.dW,cP,iX,v_ r]
theorem we:∀k:TL,k.rq=(k.aN.map T.uy).flatten
 | .z=>rfl
 | .no r=>by rw [TL.Er,TL.eZ];exact we r
 | .c t r=>by rw [TL.Es,TL.dW,cP,iX,we r]
theorem sF:∀k:TL,k.j_=(k.aN.map T.j9).flatten
 | .z=>rfl
 | .no r=>by rw [TL.Bp,TL.eZ];exact sF r
 | .c t r=>by rw [TL.Bq,TL.dW,cP,iX,sF r]
def Br(t:T):t.gM=(if ji t=true then [t]else [])++(if e1 t.kind t.flags=true then t.ai.qi else []):=by
 cases t with
 |mk a at_ k f s ai=>rw [T.z7];rfl
def wg(t:T):t.uy=if t.kind=52 then [t]else if e0 t.kind=true then t.ai.rq else []:=by
 cases t with
 |mk a at_ k f s ai=>rw [T.Ep];rfl
def Et(t:T):t.j9=(if jF t.kind=true then [t]else [])++(if e2 t.kind=true then t.ai.j_ else []):=by
 cases t with
 |mk a at_ k f s ai=>rw [T.Bo];rfl
def CJ{t:T}(h:t.aG=true):∀u ∈ t.ai.aN,u.aG=true:=by
 cases t with
 |mk a at_ k f s ai=>
  simp only [T.je,cM]at h;have j:∀l:TL,l.aG=true->∀u ∈ l.aN,u.aG=true:=λl=>by
   induction l using TL.rec (motive_1:=λm=>True)with
   |mk=>trivial
   |z=>intro _ u b;cases b
   |no r e=>intro h u b;exact e h u b
   |c t r _ e=>
    intro h u b;simp only [TL.kF,cM]at h;refine a_ (List.mem_cons.mp b) (λg=> ?_) λb=> ?_
    any_goals subst g
    .exact h.1
    .exact e h.2 u b
  exact j ai h.2
section
variable{d:Nat}{st:St}{K:KV}{lo hi:Nat}{ν:Nat->Int}{t:T}
def Eu{KS:KS}{w u:Nat}{N:Option V}(hu:st.length<=u)(G:u≠w):∀(n:Nat) (y done:List T) (b:St) (q l:Option V),gm y<=n->gm y+done.length<500000->SK st lo hi ν w y b->(∀t ∈ y,t.aG=true)->b[u]? =some (.list (br done))->
  (∀o q l,st <+: o->o[u]? =some (.list (br (done++(y.reverse.map T.gM).flatten)))->KS .next [N,some (.ref u),some (.ref w),q,l] o)->
  dB (λm st k=>vE (aq (d+2)) (.l 2) m st (tr k)) (λm st k=>vB (aq (d+2)) Ew m st k) (n+1) [N,some (.ref u),some (.ref w),q,l] b KS:=by
 intro zl
 induction zl with
 |zero=>
  intro y done b q l C hb S M J E;refine e7 S rfl (λe=>E b q l S.pre (by subst e;simpa using J)) λa t e=> ?_;subst e;rw [dc]at C hb;exact(yf _ C).elim
 |succ n zi=>
  intro y done b q l C hb S M J E;refine e7 S rfl (λe=>E b q l S.pre (by subst e;simpa using J)) λa t e=> ?_;subst e;rw [dc]at C hb;dsimp only [Ew,ah,cL];refine nQ S rfl ?_;simp only [cB,cA,aa];have S1:=S.pop;have j:=aT (x:=O.list (br a)) G.symm J;have gt:=M t (by simp);have gr:∀x ∈ a,x.aG=true:=λx H=>M x (by simp [H]);refine aS (bD S.top) λg q0 a8 U A=> ?_;have Q:=aJ A;have tl:=sD t.ai;have rl:=mF a;have Y:gm (a++t.ai.aN.reverse)=gm a+t.ai.ids.length:=by rw [kE,<-fC t.ai];simp [gm]
  have D:∀(b:St) (f:List T),SK st lo hi ν w a b->b[u]? =some (.list (br f))->f=done++(if ji t=true then [t]else [])->
    vB (aq (d+2)) (.e (.i (.dh (.d (.cmp .ne (.x 3 1) (.g 2)) (.qP (.d (.cmp .ne (.x 3 1) (.g 4)) (.v 2 (.l 3) (.g 17)))))) (.e (.gI 4 (.rev (.x 3 3)) CF)))) [N,some (.ref u),some (.ref w),some (.ref t.a),l] b
     (cS (λm st=>dB (λm st k=>vE (aq (d+2)) (.l 2) m st (tr k)) (λm st k=>vB (aq (d+2)) Ew m st k) (n+1) m st KS) KS):=by
   intro b f S1 j I;have e1:=ak S1.pre U;have e2:=ak S1.pre A;have dl:f.length<=done.length+1:=by rw [I];split<;>simp
   dsimp only [ah];refine aV (Mine.e1 t.kind t.flags) (λK' h'=>fu (λK h=>bZ (aj rfl) e1 rfl kG h)
    (λK h=>Bm (λK h=>bZ (aj rfl) e1 rfl jV h) (λK h=>by
     dsimp only [vE,vL,cF,bM,kH];refine sj (S.top.pre S1.pre) ?_;have:(Builtin.bitAnd t.flags 4 != 0)=arrow t.flags:=by
      dsimp only [arrow,bne];by_cases z:Builtin.bitAnd t.flags 4=0<;>simp [z]
     rw [this];exact h) h) (by simpa [Mine.e1,b_,bne]using h')) ?_
   cases hk:Mine.e1 t.kind t.flags
   .rw [if_neg (by decide),au,aa,au,aQ];refine zi a f _ _ _ (cD λg=>bx (jt _ _ _) (AN (AN (AN aE aI) aA) (AN bg aA)) (AN (AN bg aA) aE) (aH C g) rfl) (bK λg=>bx (oJ _ _ _ _) (AN (AN (AN (AN (AN aE aI) aA) bg) aA) (AN dm (.num 500000))) (AN (.num 500000) (AN (AN bg aA) (AN aE dm))) (aH hb (aH dl g)) rfl) S1 gr j λc v L p h=>E c v L p ?_;rw [h,I];simp [Br t,hk]
   .rw [if_pos rfl,ah,iu,L0];refine aK (aj rfl) e1 rfl ?_;simp only [e2,eV,<-List.map_reverse];rw [eV]at A;refine sr Q A t.ai.fX.reverse a _ _ S1 (λx H=>o_ (gJ S.top) x (by simpa using H)) (bK λg=>bx (CA _ _ _ _ _) (AN (AN (AN (AN (AN aE aI) aA) bg) aA) (AN dm (AN j4 (.num 900000)))) (AN (.num 500000) (AN aI (AN aE (AN j4 dm)))) (aH hb (aH tl (aH rl g))) rfl) λo l S2 e3=> ?_;dsimp only [aa,au,aa,au,aQ];rw [pe]at S2;refine zi (a++t.ai.aN.reverse) f _ _ _ (cD λg=>bx (oJ _ _ _ _) (AN (AN (AN aE aI) aA) (AN dm (AN bg aA))) (AN (AN bg aA) (AN (AN aE aI) dm)) (aH C (aH (ze Y) g)) rfl) (bK λg=>bx (CA _ _ _ _ _) (AN (AN (AN (AN (AN aE aI) aA) bg) aA) (AN dm (AN j4 (.num 500000)))) (AN (.num 500000) (AN (AN aE aI) (AN (AN bg aA) (AN dm j4)))) (aH hb (aH (ze Y) (aH dl g))) rfl) S2 (λx H=>(List.mem_append.mp H).elim (gr x) λh=>CJ gt x (by simpa using h)) ((e3 u G).trans j) λc v L p h=>E c v L p ?_;rw [h,I];simp [Br t,hk,v_]
  dsimp only [ah];refine aV (ji t) (λK' h'=>by
   dsimp only [vE,vL,cF,bM];exact Ej (S.top.pre S1.pre) gt h') ?_
  cases hi':ji t
  .rw [if_neg (by decide),au,aa];exact D _ done S1 j (by simp [hi'])
  .rw [if_pos rfl,ah,gy];refine vZ rfl rfl j (zt (zt (za (sG _ _) 1) hb) (bI rfl)) ?_;exact D _ (done++ [t]) (S1.other G hu) (bh j) (by simp [hi'])
def wh(r:Rep lo hi ν st t)(g:t.aG=true)(hh:hi<=st.length)(j:t.ids.length<400000)(h:∀a u,st <+: a->st.length<=u->a[u]? =some (.list (br t.gM))->K (.ref u) a):aq (d+3) 34 [.ref t.a] st K:=by
 refine call_in Ex [some (.ref t.a),none,none,none,none] ?_ (by decide) rfl rfl rfl;rw [Ex,ah];dsimp only [vS,vE,vL,aa,big,cA,cB,cY];refine⟨by decide,?_⟩;dsimp only [ah];dsimp only [vS,vE,vL,aa,big,bM,cA,cB,cV,cY];refine⟨by decide,?_⟩;have S:SK st lo hi ν (st++ [O.list []]).length [t] (st++ [O.list []]++ [O.list [V.ref t.a]]):=⟨cE (eE _ _),aD,al,hh,λx b=>by rw [List.mem_singleton.mp b];exact r⟩;have e:gm [t]=t.ids.length:=rfl;refine⟨gm [t]+1,Eu (bP _) (by simp) _ [t] [] _ _ _ (bP _) (by simp;exact zt (zt (za (ze e) 1) j) (zr 100000)) S (λx b=>by rw [List.mem_singleton.mp b];exact g) (bQ aD) λc v k p f=> ?_⟩;exact h c st.length p (bP _) (by simpa using f)
end
section
variable{d:Nat}{st:St}{K:KV}{lo hi:Nat}{ν:Nat->Int}{t:T}{C:aR}
def Ey{KS:KS}{w u:Nat}{N:Option V}(U:st.length<=u)(G:u≠w):∀(n:Nat) (D done:List T) (f:St) (o l:Option V),gm D<=n->gm D+done.length<500000->SK st lo hi ν w D f->f[u]? =some (.list (br done))->
  (∀g o l,st <+: g->g[u]? =some (.list (br (done++(D.reverse.map T.uy).flatten)))->KS .next [N,some (.ref u),some (.ref w),o,l] g)->
  dB (λm st k=>vE C (.l 2) m st (tr k)) (λm st k=>vB C L1 m st k) (n+1) [N,some (.ref u),some (.ref w),o,l] f KS:=by
 intro zl
 induction zl with
 |zero=>
  intro D done f o l q hb S H A;refine e7 S rfl (λe=>A f o l S.pre (by subst e;simpa using H)) λa t e=> ?_;subst e;rw [dc]at q hb;exact(yf _ q).elim
 |succ n I=>
  intro D done f o l q hb S H A;refine e7 S rfl (λe=>A f o l S.pre (by subst e;simpa using H)) λa t e=> ?_;subst e;rw [dc]at q hb;dsimp only [L1,ah,cL];refine nQ S rfl ?_;simp only [cB,cA,aa];have S1:=S.pop;have y:=aT (x:=O.list (br a)) G.symm H;refine aS (bD S.top) λb q0 a4 L z=> ?_;have e1:=ak S1.pre L;have e2:=ak S1.pre z;have J:=aJ z;have Q:=sD t.ai;have rl:=mF a;have M:gm (a++t.ai.aN.reverse)=gm a+t.ai.ids.length:=by rw [kE,<-fC t.ai];simp [gm]
  dsimp only [ah];refine aV (b_ .eq t.kind 52) (λK' h'=>bZ (aj rfl) e1 rfl wm h') ?_;by_cases j:t.kind=52
  .rw [if_pos (by dsimp only [b_];simp [j]),ah,gy];refine vZ rfl rfl y (zt (zt (za (sG _ _) 1) hb) (bI rfl)) ?_;dsimp only [aa,au,aa,au,aQ];refine I a (done++ [t]) _ _ _ (cD λb=>bx (jt _ _ _) (AN (AN (AN aE aI) aA) (AN bg aA)) (AN (AN bg aA) aE) (aH q b) rfl) (by simp;exact bK λb=>bx (jt _ _ _) (AN (AN (AN (AN (AN aE aI) aA) bg) aA) (.num 500000)) (AN (.num 500000) (AN aE (AN bg aA))) (aH hb b) rfl) (S1.other G U) (bh y) λc v E p h=>A c v E p ?_;rw [h];simp [wg t,j]
  .rw [if_neg (by dsimp only [b_];simp [j]),ah];refine aV (e0 t.kind) (λK' h'=>fu (λK h=>bZ (aj rfl) e1 rfl jV h) (λK h=>bZ (aj rfl) e1 rfl kG h) (by simpa [e0,b_,bne]using h')) ?_;cases hk:e0 t.kind
   .rw [if_neg (by decide),au,aa,au,aa,au,aQ];refine I a done _ _ _ (cD λb=>bx (jt _ _ _) (AN (AN (AN aE aI) aA) (AN bg aA)) (AN (AN bg aA) aE) (aH q b) rfl) (bK λb=>bx (jt _ _ _) (AN (AN (AN (AN (AN aE aI) aA) bg) aA) (.num 500000)) (AN (.num 500000) (AN aE bg)) (aH hb b) rfl) S1 y λc v E p h=>A c v E p ?_;rw [h];simp [wg t,j,hk]
   .rw [if_pos rfl,ah,iu,L0];refine aK (aj rfl) e1 rfl ?_;simp only [e2,eV,<-List.map_reverse];rw [eV]at z;refine sr J z t.ai.fX.reverse a _ _ S1 (λx Y=>o_ (gJ S.top) x (by simpa using Y)) (bK λb=>bx (CA _ _ _ _ _) (AN (AN (AN (AN (AN aE aI) aA) bg) aA) (AN dm (AN j4 (.num 900000)))) (AN (.num 500000) (AN aI (AN aE (AN j4 dm)))) (aH hb (aH Q (aH rl b))) rfl) λg l S2 e3=> ?_;dsimp only [aa,au,aa,au,aa,au,aQ];rw [pe]at S2;refine I (a++t.ai.aN.reverse) done _ _ _ (cD λb=>bx (oJ _ _ _ _) (AN (AN (AN aE aI) aA) (AN dm (AN bg aA))) (AN (AN bg aA) (AN (AN aE aI) dm)) (aH q (aH (ze M) b)) rfl) (bK λb=>bx (oJ _ _ _ _) (AN (AN (AN (AN (AN aE aI) aA) bg) aA) (AN dm (.num 500000))) (AN (.num 500000) (AN (AN aE aI) (AN dm bg))) (aH hb (aH (ze M) b)) rfl) S2 ((e3 u G).trans y) λc v E p h=>A c v E p ?_;rw [h];simp [wg t,j,hk,we]
def L2(r:Rep lo hi ν st t)(hh:hi<=st.length)(g:t.ids.length<400000)(h:∀a u,st <+: a->st.length<=u->a[u]? =some (.list (br t.uy))->K (.ref u) a):aq (d+1) 31 [.ref t.a] st K:=by
 refine call_in L3 [some (.ref t.a),none,none,none,none] ?_ (by decide) rfl rfl rfl;rw [L3,ah];dsimp only [vS,vE,vL,aa,big,cA,cB,cY];refine⟨by decide,?_⟩;dsimp only [ah];dsimp only [vS,vE,vL,aa,big,bM,cA,cB,cV,cY];refine⟨by decide,?_⟩;have S:SK st lo hi ν (st++ [O.list []]).length [t] (st++ [O.list []]++ [O.list [V.ref t.a]]):=⟨cE (eE _ _),aD,al,hh,λx f=>by rw [List.mem_singleton.mp f];exact r⟩;have b:gm [t]=t.ids.length:=rfl;refine⟨gm [t]+1,Ey (bP _) (by simp) _ [t] [] _ _ _ (bP _) (by simp;exact zt (zt (za (ze b) 1) g) (bI rfl)) S (bQ aD) λc v j p e=> ?_⟩;exact h c st.length p (bP _) (by simpa using e)
def yg(t:T)(a done L:List T)(b:L.Perm ((a.map T.j9).flatten++(if e2 t.kind=true then t.ai.j_ else []))):((done++(if jF t.kind=true then [t]else []))++L).Perm (done++((a++ [t]).map T.j9).flatten):=by
 rw [fW];refine Bs _ ?_;simp only [List.map_append,wA,cP,qg,iX,wC,fK,Et t];refine(Bs _ b).trans ?_;rw [<-fW,<-fW];exact List.Perm.append_right _ List.perm_append_comm
def Ez{KS:KS}{w u:Nat}{Q N:Option V}(hu:st.length<=u)(E:u≠w):∀(n:Nat) (z done:List T) (b:St) (l:Option V),gm z<=n->gm z+done.length<500000->SK st lo hi ν w z b->b[u]? =some (.list (br done))->
  (∀o l L,st <+: o->o[u]? =some (.list (br L))->L.Perm (done++(z.map T.j9).flatten)->KS .next [Q,some (.ref u),some (.ref w),l,N] o)->
  dB (λm st k=>vE C (.l 2) m st (tr k)) (λm st k=>vB C Ii m st k) (n+1) [Q,some (.ref u),some (.ref w),l,N] b KS:=by
 intro zl
 induction zl with
 |zero=>
  intro z done b l y hb S H D;refine e7 S rfl (λe=>D b l done S.pre H (by subst e;simp)) λa t e=> ?_;subst e;rw [dc]at y hb;exact(yf _ y).elim
 |succ n Y=>
  intro z done b l y hb S H D;refine e7 S rfl (λe=>D b l done S.pre H (by subst e;simp)) λa t e=> ?_;subst e;rw [dc]at y hb;dsimp only [Ii,ah,cL];refine nQ S rfl ?_;simp only [cB,cA,aa];have S1:=S.pop;have j:=aT (x:=O.list (br a)) E.symm H;refine aS (bD S.top) λg q0 a8 I a9=> ?_;have tl:=eU t.ai;have rl:=mF a;have U:gm (a++t.ai.aN)=gm a+t.ai.ids.length:=by rw [kE,fC]
  have A:∀(b:St) (f:List T),SK st lo hi ν w a b->b[u]? =some (.list (br f))->f=done++(if jF t.kind=true then [t]else [])->
    vB C (.e (.i (.cmp .ne (.x 3 1) (.g 4)) (.e (.ex (.extend (.l 2) (.comp (.l 4) 4 (.seq (.x 3 3)) (.e (.p_ true (.l 4))))))))) [Q,some (.ref u),some (.ref w),some (.ref t.a),N] b
     (cS (λm st=>dB (λm st k=>vE C (.l 2) m st (tr k)) (λm st k=>vB C Ii m st k) (n+1) m st KS) KS):=by
   intro b f S1 j G;have e1:=ak S1.pre I;have dl:f.length<=done.length+1:=by rw [G];split<;>simp
   dsimp only [ah];refine aV (e2 t.kind) (λK' h'=>bZ (aj rfl) e1 rfl jV (by simpa [e2,b_,bne]using h')) ?_;cases hk:e2 t.kind
   .rw [if_neg (by decide),au,aa,au,aQ];refine Y a f _ _ (cD λg=>bx (jt _ _ _) (AN (AN (AN aE aI) aA) (AN bg aA)) (AN (AN bg aA) aE) (aH y g) rfl) (bK λg=>bx (oJ _ _ _ _) (AN (AN (AN (AN (AN aE aI) aA) bg) aA) (AN dm (.num 500000))) (AN (.num 500000) (AN (AN bg aA) (AN aE dm))) (aH hb (aH dl g)) rfl) S1 j λc v L p M J=>D c v L p M ?_;subst G;refine J.trans (yg t a done _ ?_);simp [hk]
   .rw [if_pos rfl,ah,gy];refine lH (bI rfl) rfl rfl S1.stk (S.top.pre S1.pre) (λq g h=>by have j1:=S.w0;have j2:=S.hi0;exact zl (zt (zt h j2) j1)) (by simp;exact bK λg=>bx (CA _ _ _ _ _) (AN (AN (AN (AN (AN aE aI) aA) bg) aA) (AN dm (AN j4 (.num 900000)))) (AN (.num 500000) (AN aI (AN aE (AN j4 dm)))) (aH hb (aH tl (aH rl g))) rfl) ?_;dsimp only [aa,au,aa,au,aQ];have S2:=(S1.app [O.list (br t.ai.aN)]).push (SK.ai S.top);refine Y (a++t.ai.aN) f _ _ (cD λg=>bx (oJ _ _ _ _) (AN (AN (AN aE aI) aA) (AN dm (AN bg aA))) (AN (AN bg aA) (AN (AN aE aI) dm)) (aH y (aH (ze U) g)) rfl) (bK λg=>bx (CA _ _ _ _ _) (AN (AN (AN (AN (AN aE aI) aA) bg) aA) (AN dm (AN j4 (.num 500000)))) (AN (.num 500000) (AN (AN aE aI) (AN (AN bg aA) (AN dm j4)))) (aH hb (aH (ze U) (aH dl g))) rfl) S2 (aT E.symm (bQ j)) λc v L p M J=>D c v L p M ?_;subst G;refine J.trans (yg t a done _ ?_);simp [hk,sF]
  dsimp only [ah];have e1:=ak S1.pre I;refine aV (jF t.kind) (λK' h'=>Bm
   (λK h=>v9 (sA (aj rfl) e1 rfl) (λK h=>by simp only [iU,yh,cy,aW,Bt,Bu,Bv];exact h) rfl h)
   (λK h=>v9 (sA (aj rfl) e1 rfl) (λK h=>by simp only [iU,Ij];exact h) rfl h) h') ?_
  cases hi':jF t.kind
  .rw [if_neg (by decide),au,aa];exact A _ done S1 j (by simp [hi'])
  .rw [if_pos rfl,ah,gy];refine vZ rfl rfl j (zt (zt (za (sG _ _) 1) hb) (bI rfl)) ?_;exact A _ (done++ [t]) (S1.other E hu) (bh j) (by simp [hi'])
def L4(r:Rep lo hi ν st t)(hh:hi<=st.length)(j:t.ids.length<400000)(h:∀a u L,st <+: a->st.length<=u->a[u]? =some (.list (br L))->L.Perm t.j9->K (.ref u) a):aq (d+1) 38 [.ref t.a] st K:=by
 refine call_in L5 [some (.ref t.a),none,none,none,none] ?_ (by decide) rfl rfl rfl;rw [L5,ah];dsimp only [vS,vE,vL,aa,big,cA,cB,cY];refine⟨by decide,?_⟩;dsimp only [ah];dsimp only [vS,vE,vL,aa,big,bM,cA,cB,cV,cY];refine⟨by decide,?_⟩;have S:SK st lo hi ν (st++ [O.list []]).length [t] (st++ [O.list []]++ [O.list [V.ref t.a]]):=⟨cE (eE _ _),aD,al,hh,λx g=>by rw [List.mem_singleton.mp g];exact r⟩;have b:gm [t]=t.ids.length:=rfl;refine⟨gm [t]+1,Ez (bP _) (by simp) _ [t] [] _ _ (bP _) (by simp;exact zt (zt (za (ze b) 1) j) (bI rfl)) S (bQ aD) λc v L p f e=> ?_⟩;exact h c st.length L p (bP _) f (by simpa using e)
end
mutual
noncomputable def T.pre:T->List T
 | .mk a at_ k f s ai=> .mk a at_ k f s ai::ai.jG
noncomputable def TL.jG:TL->List T
 | .z=>[]
 | .no r=>r.jG
 | .c t r=>t.pre++r.jG
end
def T.qR(a:Nat)(at_ k f s:Int)(ai:TL):(T.mk a at_ k f s ai).pre=T.mk a at_ k f s ai::ai.jG:=rfl
def TL.wD:TL.z.jG=[]:=rfl
def TL.jW(r:TL):r.no.jG=r.jG:=rfl
def TL.jX(t:T)(r:TL):(TL.c t r).jG=t.pre++r.jG:=rfl
theorem rM:∀k:TL,k.jG=(k.aN.map T.pre).flatten
 | .z=>rfl
 | .no r=>by rw [TL.jW,TL.eZ];exact rM r
 | .c t r=>by rw [TL.jX,TL.dW,cP,iX,rM r]
def z_(t:T):t.pre=t::t.ai.jG:=by
 cases t with
 |mk a at_ k f s ai=>rw [T.qR];rfl
mutual
theorem jm:∀t:T,t.pre.map T.a=t.ids
 | .mk a at_ k f s ai=>by rw [T.qR,T.aU,cP,sH ai];rfl
theorem sH:∀k:TL,k.jG.map T.a=k.ids
 | .z=>rfl
 | .no r=>by rw [TL.jW,TL.cX];exact sH r
 | .c t r=>by rw [TL.jX,TL.cG,List.map_append,jm t,sH r]
end
mutual
theorem kJ{lo hi:Nat}{ν:Nat->Int}{st:St}:∀{t:T},Rep lo hi ν st t->∀n ∈ t.pre,Rep lo hi ν st n
 | .mk a at_ k f s ai,r=>λn b=>by
  rw [T.qR]at b;refine a_ (List.mem_cons.mp b) (λc=> ?_) λb=> ?_
  any_goals subst c
  .exact r
  .exact sJ r.2.2 n b
theorem sJ{lo hi:Nat}{ν:Nat->Int}{st:St}:∀{k:TL},cQ lo hi ν st k->∀n ∈ k.jG,Rep lo hi ν st n
 | .z,_=>λn a=>by rw [TL.wD]at a;cases a
 | .no r,h=>λn a=>by rw [TL.jW]at a;exact sJ (k:=r) h n a
 | .c t r,h=>λn a=>by
  rw [TL.jX]at a;refine a_ (List.mem_append.mp a) (λa=> ?_) λa=> ?_
  .exact kJ h.1 n a
  .exact sJ h.2 n a
end
def yi{t:T}(h:t.bJ=true):t.ai.aZ.length<1000/\∀u ∈ t.ai.aN,u.bJ=true:=by
 cases t with
 |mk a at_ k f s ai=>
  simp only [T.cg,cM,decide_eq_true_eq]at h;have j:∀l:TL,l.bJ=true->∀u ∈ l.aN,u.bJ=true:=λl=>by
   induction l using TL.rec (motive_1:=λm=>True)with
   |mk=>trivial
   |z=>intro _ u b;cases b
   |no r e=>intro h u b;exact e h u b
   |c t r _ e=>
    intro h u b;simp only [TL.gc,cM]at h;refine a_ (List.mem_cons.mp b) (λg=> ?_) λb=> ?_
    any_goals subst g
    .exact h.1
    .exact e h.2 u b
  exact⟨h.1,j ai h.2⟩
section
variable{d:Nat}{st:St}{K:KV}{lo hi:Nat}{ν:Nat->Int}{t:T}{C:aR}
def EA{KS:KS}{w:Nat}{G H:Option V}(r:Rep lo hi ν st t)(L:t.ai.aZ.length<1000):∀(i:Nat) (g:List T) (f:St) (n:Option V),i<=t.ai.fX.length->g.length+((t.ai.fX.take i).filterMap id).length<900000->SK st lo hi ν w g f->
  (∀a D n,SK st lo hi ν w (g++((t.ai.fX.take i).reverse.filterMap id)) a->(∀x,x≠w->a[x]? =f[x]?)->KS .next [G,H,some (.ref w),some (.ref t.a),D,n] a)->
  dB (λm st k=>vE C (.cmp .ge (.l 4) (.n 0)) m st (tr k)) (λm st k=>vB C Q6 m st k) (i+1) [G,H,some (.ref w),some (.ref t.a),some (.int ((i:Int)-1)),n] f KS:=by
 intro zl
 induction zl with
 |zero=>
  intro g f n o l S A;rw [lI];refine fU (op:= .ge) rfl (b:=false) (by dsimp only [b_];exact rfl) ?_;rw [bz];exact A f _ _ (by simpa using S) λp p=>rfl
 |succ i Q=>
  intro g f n o l S A;rw [lI];refine fU rfl (b:=true) (by simp [b_]<;>lia) ?_;rw [bz];dsimp only;refine aS (bD (r.pre S.pre)) λp q Y e1 e2=> ?_;have bW:i<t.ai.fX.length:=o;have M:t.ai.aZ[i]? =some (nu t.ai.fX[i]):=by rw [eV,yj,gO bW];rfl
  have J:=oZ t.ai;have z:t.ai.fX.take (i+1)=t.ai.fX.take i++ [t.ai.fX[i]]:=by rw [List.take_succ_eq_append_getElem bW]
  rw [Q6,ah,cL,jH];refine aK (aj rfl) e1 (v:= .ref q) rfl ?_;rw [bq];simp only [cF,bM,e2];rw [RM,if_neg (LW i),se,M];refine⟨⟨(zm _),(zu (zt (zt (zt o (ze J)) (zs L)) (bI rfl)))⟩,(iT _),?_⟩;simp only [cB,cA,aa];have next:∀(a:St) (j:List T),SK st lo hi ν w j a->j++(t.ai.fX.take i).reverse.filterMap id=g++(t.ai.fX.take (i+1)).reverse.filterMap id->j.length+((t.ai.fX.take i).filterMap id).length<900000->(∀x,x≠w->a[x]? =f[x]?)->
    vB C (.e (.aug 4 .sub (.n 1))) [G,H,some (.ref w),some (.ref t.a),some (.int i),some (nu t.ai.fX[i])] a (cS (λm st=>dB (λm st k=>vE C (.cmp .ge (.l 4) (.n 0)) m st (tr k)) (λm st k=>vB C Q6 m st k) (i+1) m st KS) KS):=by
   intro a j E e I N;rw [ah,RN];dsimp only [cF,bM,vE,cB,cA];rw [aa,au,aQ];exact Q j a _ (zs o) I E λc D n s h=>A c D n (e▸s) λx y=>(h x y).trans (N x y)
  rw [ah]
  cases ho:t.ai.fX[i]with
  |none=>
   refine aV false (λU h'=>by simp only [bq,nv,nu,cF,bM];exact h') ?_;rw [if_neg (by decide),au,aa,<-ho];refine next f g S ?_ ?_ λp p=>rfl
   .rw [z,ho];simp
   .rw [z,ho]at l;simpa using l
  |some u=>
   refine aV true (λU h'=>by simp only [bq,nv,nu,cF,bM];exact h') ?_;rw [if_pos rfl,ah,gy,iV];simp only [bq,nu,cF,bM,S.stk];refine⟨by simp only [bN,big];exact zt (zt (za (zr _) 1) l) (bI rfl),?_⟩;rw [aa,au,aa];have E:=S.push (new:=[u]) (λx y=>by rw [List.mem_singleton.mp y];exact o_ (gJ r) u (by rw [<-ho];exact List.getElem_mem _));have:=next (f.set w (.list (br g++br [u]))) (g++ [u]) E (by rw [z,ho];simp) (by rw [z,ho]at l;simp at l ⊢;exact bK λp=>bx (fL _ _) (AN (AN (AN aE (AN aI aA)) aA) (.num 900000)) (AN (.num 900000) (AN (AN aE aA) aI)) (aH l p) rfl) λx y=>j7 y.symm
   rw [ho]at this;exact this
def Ik{KS:KS}{w u:Nat}{Q:Option V}(hu:st.length<=u)(E:u≠w):∀(n:Nat) (A done:List T) (g:St) (z l y:Option V),gm A<=n->gm A+done.length<500000->SK st lo hi ν w A g->(∀t ∈ A,t.bJ=true)->g[u]? =some (.list (br done))->
  (∀j z l y,st <+: j->j[u]? =some (.list (br (done++(A.reverse.map T.pre).flatten)))->KS .next [Q,some (.ref u),some (.ref w),z,l,y] j)->
  dB (λm st k=>vE C (.l 2) m st (tr k)) (λm st k=>vB C RO m st k) (n+1) [Q,some (.ref u),some (.ref w),z,l,y] g KS:=by
 intro zl
 induction zl with
 |zero=>
  intro A done g z l y G hb S L I H;refine e7 S rfl (λe=>H g z l y S.pre (by subst e;simpa using I)) λf t e=> ?_;subst e;rw [dc]at G hb;exact(yf _ G).elim
 |succ n zi=>
  intro A done g z l y G hb S L I H;refine e7 S rfl (λe=>H g z l y S.pre (by subst e;simpa using I)) λf t e=> ?_;subst e;rw [dc]at G hb;dsimp only [RO,ah,cL];refine nQ S rfl ?_;simp only [cB,cA,aa];have S1:=S.pop;have J:=aT (x:=O.list (br f)) E.symm I;have tl:=eU t.ai;have U:=sC t.ai;have rl:=mF f;refine cR (yi (L t (by simp))) λhz nk=> ?_;have N:gm (f++t.ai.aN.reverse)=gm f+t.ai.ids.length:=by rw [kE,<-fC t.ai];simp [gm]
  dsimp only [ah,gy];refine vZ (t:=t) rfl rfl J (zt (zt (za (sG _ _) 1) hb) (bI rfl)) ?_;have S2:=S1.other (a:=u) (o:= .list (br (done++ [t]))) E hu;have Y:=bh (x:=O.list (br (done++ [t]))) J;refine aS (bD (S.top.pre S2.pre)) λD q hq e1 e2=> ?_;dsimp only [aa,ah,cL,j8,jh];refine aK (aj rfl) e1 (v:= .ref q) rfl ?_;simp only [e2,bq,bV,zX,cB,cA];dsimp only [aa,ah,Bl];refine⟨t.ai.aZ.length+1,?_⟩;have ol:=oZ t.ai;have M:t.ai.fX.take t.ai.aZ.length=t.ai.fX:=by rw [<-ol,List.take_length]
  refine EA S.top hz t.ai.aZ.length f _ _ (zf ol) (by rw [M];exact bK λD=>bx (CA _ _ _ _ _) (AN (AN (AN (AN (AN aE aI) aA) bg) aA) (AN dm (AN j4 (.num 900000)))) (AN (.num 500000) (AN aI (AN aE (AN j4 dm)))) (aH hb (aH U (aH rl D))) rfl) S2 λj l y S3 e3=> ?_;dsimp only [aa,au,aQ];rw [M,pe]at S3;refine zi (f++t.ai.aN.reverse) (done++ [t]) _ _ _ _ (cD λD=>bx (oJ _ _ _ _) (AN (AN (AN aE aI) aA) (AN dm (AN bg aA))) (AN (AN bg aA) (AN (AN aE aI) dm)) (aH G (aH (ze N) D)) rfl) (by simp;exact bK λD=>bx (oJ _ _ _ _) (AN (AN (AN (AN (AN aE aI) aA) bg) aA) (AN dm (.num 500000))) (AN (.num 500000) (AN (AN aE aI) (AN dm (AN bg aA)))) (aH hb (aH (ze N) D)) rfl) S3 (λx hx=>(List.mem_append.mp hx).elim (λh=>L x (by simp [h])) λh=>nk x (by simpa using h)) ((e3 u E).trans Y) λc a b e p h=>H c a b e p ?_;rw [h];simp [z_ t,rM]
def Pd(r:Rep lo hi ν st t)(hh:hi<=st.length)(j:t.ids.length<400000)(g:t.bJ=true)(h:∀a u,st <+: a->st.length<=u->a[u]? =some (.list (br t.pre))->K (.ref u) a):aq (d+1) 4 [.ref t.a] st K:=by
 refine call_in RP [some (.ref t.a),none,none,none,none,none] ?_ (by decide) rfl rfl rfl;rw [RP,ah];dsimp only [vS,vE,vL,aa,big,cA,cB,cY];refine⟨by decide,?_⟩;dsimp only [ah];dsimp only [vS,vE,vL,aa,big,bM,cA,cB,cV,cY];refine⟨by decide,?_⟩;have S:SK st lo hi ν (st++ [O.list []]).length [t] (st++ [O.list []]++ [O.list [V.ref t.a]]):=⟨cE (eE _ _),aD,al,hh,λx b=>by rw [List.mem_singleton.mp b];exact r⟩;have e:gm [t]=t.ids.length:=rfl;refine⟨gm [t]+1,Ik (u:=st.length) (bP _) (by simp) _ [t] [] _ _ _ _ (bP _) (by simp;exact zt (zt (za (ze e) 1) j) (zr 100000)) S (λx b=>by rw [List.mem_singleton.mp b];exact g) (bQ aD) λc v l k p f=> ?_⟩;exact h c st.length p (bP _) (by simpa using f)
def EB{KS:KS}{u:Nat}{src:List V}{M N:Option V}:∀(l:List T) (n:Int) (b:St) (j:Option V),b[u]? =some (.list src)->(l.map T.a).Nodup->u ∉ l.map T.a->(∀t ∈ l,∃w q z,b[t.a]? =some (gF t.kind w q t.flags t.at_ z))->
  (∀c j,c.length=b.length->(∀a,a ∉ l.map T.a->c[a]? =b[a]?)->(∀(i:Nat) (t:T),l[i]? =some t->∀w q z,b[t.a]? =some (gF t.kind w q t.flags t.at_ z)->c[t.a]? =some (gF t.kind w q t.flags t.at_ (n+i)))->KS .next [M,N,some (.int (n+l.length)),j] c)->
  bC (λm st k=>vB C (.d (.X 3 6 2) (.aug 2 .add (.n 1))) m st k) (λv m=>some (m.set 3 (some v))) (some (u,src)) (br l) [M,N,some (.int n),j] b KS:=by
 intro zl
 induction zl with
 |nil=>
  intro n b j D f A p H;exact⟨D,by simpa using H b j rfl (λg g=>rfl) (λi t h=>by simp at h)⟩
 |cons t l zi=>
  intro n b j D f A p H;simp only [br,cP,bC];refine⟨D,?_⟩;rw [cP,lG]at f;rw [cP,List.mem_cons,not_or]at A;refine sM (p t cW) λw q z e1=> ?_;rw [ah,Aa];simp only [bq,cB,cA,cF,bM,e1];refine⟨⟨O9 6,(zb rfl)⟩,?_⟩;have Y:putL 6 (V.int n) [(1,.int t.kind),(2,w),(3,.ref q),(4,.int t.flags),(5,.int t.at_),(6,.int z)]=[(1,.int t.kind),(2,w),(3,.ref q),(4,.int t.flags),(5,.int t.at_),(6,.int n)]:=(dw _);rw [Y];refine zi (n+1) _ _ (aT (λe=>A.1 e.symm) D) f.2 A.2 (λx o=> ?_) λc j U L Q=> ?_
  .refine sM (p x (.tail _ o)) λG J E y=> ?_;exact⟨G,J,E,aT (λe=>f.1 (List.mem_map.mpr ⟨x,o,e.symm⟩)) y⟩
  .have:=H c j (by rw [U];exact vO) (λa I=>by
    rw [cP,List.mem_cons,not_or]at I;rw [L a I.2,j7 (λe=>I.1 e.symm)]) (λi x o G J E y=>by
    cases i with
    |zero=>
     simp at o;subst o;rw [e1]at y;simp at y;rw [L _ f.1,bh e1];simp [y]
    |succ i=>
     simp at o;have hm:x ∈ l:=nR o;have:=Q i x o G J E (aT (λe=>f.1 (List.mem_map.mpr ⟨x,hm,e.symm⟩)) y);rw [this];simp;exact x_ (Int.not_lt.mp λg=>dJ (xU _ _) (AI (AI bH (AI jr ck)) ck) (AI (AI bH ck) jr) g rfl) (Int.not_lt.mp λg=>dJ (xU _ _) (AI (AI (AI bH ck) jr) ck) (AI bH (AI jr ck)) g rfl))
   have e:n+((t::l).length:Int)=n+1+l.length:=by simp;exact x_ (Int.not_lt.mp λg=>dJ (xU _ _) (AI (AI (AI bH ck) jr) ck) (AI bH (AI jr ck)) g rfl) (Int.not_lt.mp λg=>dJ (xU _ _) (AI (AI bH (AI jr ck)) ck) (AI (AI bH ck) jr) g rfl)
   rw [e]at this;exact this
def L6{n:Int}(r:Rep lo hi ν st t)(hh:hi<=st.length)(H:t.ids.length<400000)(A:t.bJ=true)(k:t.ids.Nodup)
  (h:∀v b,st.length<=b.length->(∀a o,a ∉ t.ids->st[a]? =some o->b[a]? =some o)->(∀(i:Nat) (x:T),t.pre[i]? =some x->∀w q g,st[x.a]? =some (gF x.kind w q x.flags x.at_ g)->b[x.a]? =some (gF x.kind w q x.flags x.at_ (n+i)))->K v b):aq (d+2) 5 [.ref t.a,.int n] st K:=by
 refine call_in RQ [some (.ref t.a),some (.int n),none,none] ?_ (by decide) rfl rfl rfl;dsimp only [RQ,ah];dsimp only [vS,vE,aa,bM,cF,cA,cB];dsimp only [ah,iu,h_];dsimp only [vE,vL,bM];refine Pd r hh H A λz u c y e1=> ?_;simp only [e1];refine EB t.pre n z _ e1 (by rw [jm];exact k) (λl=>by
  rw [jm]at l;have:=(r.bd u l).2;exact fV _ (zt this (zt hh y))) (λx f=> ?_) λj I m G p=> ?_
 .refine aS (bD ((kJ r x f).pre c)) λw q D e D=> ?_;exact⟨w,q,_,e⟩
 .dsimp only [aa,ah];refine h _ j (by rw [m];exact c.length_le) (λa o E e=> ?_) λi x f w q g e=>p i x f w q g (ak c e);rw [G a (by rw [jm];exact E)];exact ak c e
end
def L_{t:T}(h:t.kind=36):t.ini=t.ai.sd:=by
 cases t with
 |mk a at_ k f s ai=>have h':k=36:=h;rw [T.qQ,if_pos h'];rfl
def Lb{t:T}(h:t.kind=34\/t.kind=35):t.ini=t.ai.lF:=by
 cases t with
 |mk a at_ k f s ai=>have h':k=34\/k=35:=h;rw [T.qQ,if_neg (RG h'),if_pos h'];rfl
def Lc{t:T}(h:t.kind≠36/\t.kind≠34/\t.kind≠35):t.ini=[]:=by
 cases t with
 |mk a at_ k f s ai=>have h':k≠36/\k≠34/\k≠35:=h;rw [T.qQ,if_neg h'.1,if_neg λe=>e.elim h'.2.1 h'.2.2]
def EC{t:T}(h:t.kind=36)(b:t.vW=true):∃(c:T) (o:Option T) (r:TL),t.ai.aZ= .ref c.a::nu o::r.aZ/\c ∈ t.ai.aN/\(∀u,o=some u->u ∈ t.ai.aN)/\c.vW=true/\t.ini=o.toList++c.ini/\c.ids.length+o.toList.length<=t.ai.ids.length:=by
 rw [L_ h]
 cases t with
 |mk a at_ k f s ai=>
  have h':k=36:=h;rw [T.uL,if_pos h']at b
  match ai,b with
  | .c c (.c i r),b=>exact⟨c,some i,r,rfl,(.head _),λu e=>by cases e;exact(.tail _ (.head _)),by simpa [TL.Ot]using b,(dw _),by have:=dX i;simp [T.ai,TL.cG];exact cD λg=>bx (jt _ _ _) (AN (AN aI aA) (AN (AN aE bg) aA)) (AN aE aA) (aH (zf this) g) rfl⟩
  | .c c (.no r),b=>exact⟨c,none,r,rfl,(.head _),λu e=>by(cases e),by simpa [TL.Ot]using b,(dw _),al⟩
theorem rN:∀k:TL,k.lF=(k.aN.map T.ini).flatten
 | .z=>rfl
 | .no r=>by rw [TL.vV,TL.eZ];exact rN r
 | .c t r=>by rw [TL.r_,TL.dW,cP,iX,rN r]
theorem wF:∀k:TL,k.zV=true->∀t ∈ k.aN,t.vW=true
 | .z,_,t,h=>by cases h
 | .no r,a,t,h=>wF r (by simpa [TL.Bh,TL.Ld,TL.yb]using a) t h
 | .c u r,a,t,h=>by
  simp only [TL.yb,cM]at a;refine a_ (List.mem_cons.mp h) (λb=> ?_) λh=> ?_
  any_goals subst b
  .exact a.1
  .exact wF r a.2 t h
def Le{t:T}(h:t.kind=34\/t.kind=35)(b:t.vW=true):∀x ∈ t.ai.aN,x.vW=true:=by
 cases t with
 |mk a at_ k f s ai=>
  have h':k=34\/k=35:=h;rw [T.uL,if_neg (RG h'),if_pos h']at b;exact wF ai b
section
variable{C:aR}{m:Loc}{st cur:St}{K:KV}{lo hi:Nat}{ν:Nat->Int}{t:T}
def qk{x y:IE}{p q:Bool}(a:∀K:KV,K (.bool p) st->vE C x m st K)(b:p=true->∀K:KV,K (.bool q) st->vE C y m st K)(h:K (.bool (p&&q)) st):vE C (.dh (.d x y)) m st K:=by
 refine a _ ?_;cases p
 .exact h
 .dsimp only [bY];exact b rfl _ h
def nS{e:IE}{o:Option T}{b:Bool}(c:∀a:KV,a (nu o) st->vE C e m st a)(h:K (.bool (if b=true then o.isSome else o.isNone)) st):vE C (.p_ b e) m st K:=by
 refine c _ ?_;cases o<;>cases b<;>exact h
end
section
variable{d:Nat}{st:St}{K:KV}{lo hi:Nat}{ν:Nat->Int}{t:T}{C:aR}
def ED{KS:KS}{w u:Nat}{a0 a4:Option V}(hu:st.length<=u)(E:u≠w):∀(n:Nat) (y done:List T) (cur:St) (A:Option V),gm y<=n->gm y+done.length<500000->SK st lo hi ν w y cur->(∀t ∈ y,t.vW=true)->cur[u]? =some (.list (br done))->
  (∀z A L,st <+: z->z[u]? =some (.list (br L))->L.Perm (done++(y.map T.ini).flatten)->KS .next [a0,some (.ref u),some (.ref w),A,a4] z)->
  dB (λm st k=>vE C (.l 2) m st (tr k)) (λm st k=>vB C EE m st k) (n+1) [a0,some (.ref u),some (.ref w),A,a4] cur KS:=by
 intro zl
 induction zl with
 |zero=>
  intro y done cur A D hb S hp Y G;refine e7 S rfl (λe=>G cur A done S.pre Y (by subst e;simp)) λa t e=> ?_;subst e;rw [dc]at D hb;exact(yf _ D).elim
 |succ n zi=>
  intro y done cur A D hb S hp Y G;refine e7 S rfl (λe=>G cur A done S.pre Y (by subst e;simp)) λa t e=> ?_;subst e;rw [dc]at D hb;dsimp only [EE,ah,cL];refine nQ S rfl ?_;simp only [cB,cA,aa];have S1:=S.pop;have f:=aT (x:=O.list (br a)) E.symm Y;have pt:=hp t (by simp);have pr:∀x ∈ a,x.vW=true:=λx l=>hp x (by simp [l]);refine aS (bD S.top) λb q0 c5 a1 c4=> ?_;have e1:=ak S1.pre a1;have tl:=eU t.ai;have rl:=mF a;have rt:=S.top.pre S1.pre;have J:((a++ [t]).map T.ini).flatten=(a.map T.ini).flatten++t.ini:=by simp
  dsimp only [ah];by_cases j:t.kind=36
  .refine iY (EC j pt) λc o r hv hc c3 pc b2 a2=> ?_;refine aV o.isSome (λU h'=>qk (p:=true) (q:=o.isSome) (λK h=>bZ (aj rfl) e1 rfl kC (by simpa [b_,j]using h))
    (λb K h=>nS (λU h'=>eW (i:=1) (v:=nu o) rfl (aj rfl) rt (by rw [hv];rfl) (bI rfl) h') (by simpa using h)) h') ?_
   have I:∀(cur:St) (g:List T),SK st lo hi ν w a cur->cur[u]? =some (.list (br g))->g=done++o.toList->
     vB C (.e (.ite (.eq (.x 3 1) (.g 14)) (.P (.l 2) (.S 3 3 0)) (.e (.i (.D0 (.x 3 1) (.p (.g 16) (.g 15))) (.e (.ex (.extend (.l 2) (.comp (.l 4) 4 (.seq (.x 3 3)) (.e (.p_ true (.l 4))))))))))) [a0,some (.ref u),some (.ref w),some (.ref t.a),a4] cur
     (cS (λm st=>dB (λm st k=>vE C (.l 2) m st (tr k)) (λm st k=>vB C EE m st k) (n+1) m st KS) KS):=by
    intro cur g S1 f a3;have e1:=ak S1.pre a1;dsimp only [ah];refine aV true (λU h'=>bZ (aj rfl) e1 rfl kC (by simpa [b_,j]using h')) ?_;rw [if_pos rfl,ah,gy,iV];simp only [bq,cF,bM,S1.stk];refine eW rfl (aj rfl) (S.top.pre S1.pre) (by rw [hv];rfl) (bI rfl) ?_;simp only [S1.stk];refine⟨by simp only [bN,big];exact zt (zt (zt (zt (za rl 1) (za (zr _) 1)) (zr _)) (zs hb)) (bI rfl),?_⟩;dsimp only [aa,au,aa,au,aQ];have S2:=S1.push (λx l=>by rw [List.mem_singleton.mp l];exact SK.ai S.top c hc);refine zi (a++ [c]) g _ _ (by rw [dc];have:=dX c;exact cD λb=>bx (Pe _ _ _ _ _ _) (AN (AN (AN aE aI) aA) (AN (AN dm j4) (AN (AN xV aA) (AN bg aA)))) (AN (AN bg aA) (AN aI (AN dm (AN (AN aE xV) aA)))) (aH D (aH a2 (aH (zf this) b))) rfl) (by rw [dc];have:=dX c;subst a3;simp;exact bK λb=>bx (Pe _ _ _ _ _ _) (AN (AN (AN (AN (AN aE aI) aA) bg) aA) (AN (AN dm j4) (AN (AN xV aA) (.num 500000)))) (AN (.num 500000) (AN aI (AN dm (AN (AN (AN aE xV) aA) (AN bg j4))))) (aH hb (aH a2 (aH (zf this) b))) rfl) S2 (λx l=>(List.mem_append.mp l).elim (pr x) λh=>by rw [List.mem_singleton.mp h];exact pc) (aT E.symm f) λM v L p N H=>G M v L p N (H.trans ?_);subst a3;rw [J,b2];simp only [List.map_append,wA,cP,qg,iX,wC,fK,fW];refine Bs _ ?_;rw [<-fW,<-fW];exact List.Perm.append_right _ List.perm_append_comm
   cases o with
   |none=>
    rw [Option.isSome_none,if_neg (by decide),au,aa];exact I _ done S1 f (by simp)
   |some i=>
    rw [Option.isSome_some,if_pos rfl,ah,gy,iV];simp only [bq,cF,bM,f];refine eW (v:= .ref i.a) rfl (aj rfl) rt (by rw [hv];rfl) (bI rfl) ?_;simp only [f];refine⟨by simp only [bN,big];exact zt (zt (za (sG _ _) 1) hb) (bI rfl),?_⟩;exact I _ (done++ [i]) (S1.other E hu) (by rw [bh f];simp [br]) rfl
  .have Q:(t.kind==36)=false:=by simp [j]
   refine aV false (λU h'=>qk (p:=false) (q:=false) (λK h=>bZ (aj rfl) e1 rfl kC (by simpa [b_,Q]using h)) (λh=>by cases h) h') ?_;rw [if_neg (by decide),au,aa,ah];refine aV false (λU h'=>bZ (aj rfl) e1 rfl kC (by simpa [b_,Q]using h')) ?_;rw [if_neg (by decide),ah];refine aV ([34,35].contains t.kind) (λU h'=>v9 (sA (aj rfl) e1 rfl) (λK h=>by simp only [iU,yh,cy,aW,Bw,Il];exact h) rfl h') ?_;by_cases hk:t.kind=34\/t.kind=35
   .rw [if_pos (by simp;lia),ah,gy];refine lH (bI rfl) rfl rfl S1.stk rt (λq b h=>by have j1:=S.w0;have j2:=S.hi0;exact zl (zt (zt h j2) j1)) (by simp;exact bK λb=>bx (CA _ _ _ _ _) (AN (AN (AN (AN (AN aE aI) aA) bg) aA) (AN dm (AN j4 (.num 900000)))) (AN (.num 500000) (AN aI (AN aE (AN j4 dm)))) (aH hb (aH tl (aH rl b))) rfl) ?_;dsimp only [aa,au,aa,au,aa,au,aQ];have S2:=(S1.app [O.list (br t.ai.aN)]).push (SK.ai S.top);have hs:gm (a++t.ai.aN)=gm a+t.ai.ids.length:=by rw [kE,fC]
    refine zi (a++t.ai.aN) done _ _ (cD λb=>bx (oJ _ _ _ _) (AN (AN (AN aE aI) aA) (AN dm (AN bg aA))) (AN (AN bg aA) (AN (AN aE aI) dm)) (aH D (aH (ze hs) b)) rfl) (bK λb=>bx (oJ _ _ _ _) (AN (AN (AN (AN (AN aE aI) aA) bg) aA) (AN dm (.num 500000))) (AN (.num 500000) (AN (AN aE aI) (AN dm bg))) (aH hb (aH (ze hs) b)) rfl) S2 (λx l=>(List.mem_append.mp l).elim (pr x) (Le hk pt x)) (aT E.symm (bQ f)) λM v L p N H=>G M v L p N (H.trans ?_);rw [J,Lb hk,rN];simp
   .rw [if_neg (by simp;lia),au,aa,au,aa,au,aQ];refine zi a done _ _ (cD λb=>bx (jt _ _ _) (AN (AN (AN aE aI) aA) (AN bg aA)) (AN (AN bg aA) aE) (aH D b) rfl) (bK λb=>bx (jt _ _ _) (AN (AN (AN (AN (AN aE aI) aA) bg) aA) (.num 500000)) (AN (.num 500000) (AN aE bg)) (aH hb b) rfl) S1 pr f λM v L p N H=>G M v L p N (H.trans ?_);rw [J,Lc ⟨j,not_or.mp hk⟩,fK]
def EF{pat:T}{own:Option T}(r:Rep lo hi ν st t)(hh:hi<=st.length)(w:t.ids.length<400000)(U:t.ai= .c pat (.no (oX own .z)))(hp:pat.vW=true)(h:∀H u L,st <+: H->st.length<=u->H[u]? =some (.list (br (L++own.toList)))->L.Perm pat.ini->K (.ref u) H):aq (d+1) 33 [.ref t.a] st K:=by
 refine call_in Ma [some (.ref t.a),none,none,none,none] ?_ (by decide) rfl rfl rfl;have e:Ma= .c (.a 1 .lz) (.r (.a 2 (.list (.e (.S 0 3 0)))) (.gz (.l 2) EE) (.i (.p_ true (.S 0 3 2)) (.P (.l 1) (.S 0 3 2))) (.ret (.l 1))):=rfl;have Y:t.ai.aZ=[.ref pat.a,.none,nu own]:=by rw [U];cases own<;>rfl
 have hm:pat ∈ t.ai.aN:=by rw [U];exact cW
 have k:=dX t;have tl:=eU t.ai;have rp:=SK.ai r pat hm;have lp:pat.ids.length<=t.ai.ids.length:=by rw [U];exact al
 refine⟨by decide,?_⟩;refine eW rfl (aj rfl) (r.pre (eE _ _)) (by rw [Y];rfl) (bI rfl) ?_;dsimp only [vL,big,cA,cB,cV,cY];refine⟨by decide,?_⟩;have S:SK st lo hi ν (st++ [O.list []]).length [pat] (st++ [O.list []]++ [O.list [V.ref pat.a]]):=⟨cE (eE _ _),aD,al,hh,λx j=>by rw [List.mem_singleton.mp j];exact rp⟩;have e3:gm [pat]=pat.ids.length:=rfl;refine⟨gm [pat]+1,ED (bP _) (by simp) _ [pat] [] _ _ (bP _) (by simp;exact zt (zt (zt (zt (za (ze e3) 1) (za lp 1)) (zf k)) (zs w)) (zr 100000)) S (λx j=>by rw [List.mem_singleton.mp j];exact hp) (bQ aD) λc v L p g I=> ?_⟩;have G:L.Perm pat.ini:=by simpa using I
 have rc:=r.pre p;refine aV own.isSome (λK' h'=>nS (λK' h'=>eW rfl (aj rfl) rc (by rw [Y];rfl) (bI rfl) h') (by simpa using h')) ?_;have lL:L.length<=400000:=by
  have j1:=G.length_eq;have hb:∀(n:Nat) (x:T),x.ids.length<=n->x.vW=true->x.ini.length<=x.ids.length:=λn=>by
   induction n with
   |zero=>intro x j;exact absurd (zt (zf (dX x)) j) (yf _)
   |succ n ih=>
    intro x j px;have k:=dX x;by_cases J:x.kind=36
    .refine iY (EC J px) λc o r f f f pc Q M=> ?_;have:=ih c (cD λf=>bx (CA _ _ _ _ _) (AN aE (AN (AN bg aA) (AN (AN dm j4) (AN aI aA)))) (AN (AN aI aA) (AN aE (AN bg dm))) (aH j (aH (zf k) (aH M f))) rfl) pc;rw [Q];simp;exact cD λf=>bx (CA _ _ _ _ _) (AN (AN aI aA) (AN (AN bg dm) (AN j4 (AN aE aA)))) (AN aE (AN aI (AN bg (AN dm j4)))) (aH (zf k) (aH M (aH this f))) rfl
    .by_cases N:x.kind=34\/x.kind=35
     .rw [Lb N,rN];have A:=fC x.ai;have a1:=Le N px;have go:∀l:List T,(∀y ∈ l,y.ids.length<=n)->(∀y ∈ l,y.vW=true)->((l.map T.ini).flatten).length<=gm l:=λl=>by
       induction l with
       |nil=>intro _ _;exact(gP _)
       |cons y l E=>
        intro g I;have a:=E (λz w=>g z (.tail _ w)) λz w=>I z (.tail _ w);have b:=ih y (g y cW) (I y cW);simp [gm]at a ⊢;exact cD λf=>bx (oJ _ _ _ _) (AN aE (AN bg (AN (AN aI dm) aA))) (AN aI (AN dm (AN aE bg))) (aH b (aH a f)) rfl
      have D:∀l:List T,∀y ∈ l,y.ids.length<=gm l:=λl=>by
       induction l with
       |nil=>intro y q;cases q
       |cons z l E=>
        intro y q;rcases List.mem_cons.mp q with rfl |q
        .simp [gm]
        .have:=E y q;simp [gm]at this ⊢;exact zt this (sG _ _)
      have:=go x.ai.aN (λy q=>by have:=D _ y q;exact cD λf=>bx (CA _ _ _ _ _) (AN aE (AN (AN bg aA) (AN dm (AN j4 (AN aI aA))))) (AN (AN aI aA) (AN aE (AN bg (AN dm j4)))) (aH j (aH (zf k) (aH (ze A) (aH this f)))) rfl) a1;exact zt (zt this (ze A)) (zs (zf k))
     .rw [Lc ⟨J,not_or.mp N⟩];exact(gP _)
  have j2:=hb _ pat (bP _) hp;exact zt (zt (zt (zt (ze j1) j2) lp) (zs (zf k))) (zs w)
 have lu:=aJ g
 cases own with
 |none=>
  exact h c st.length L p (bP _) (by simpa using g) G
 |some i=>
  rw [Option.isSome_some,if_pos rfl,ah,gy,iV];simp only [bq,cF,bM,g];refine eW (v:= .ref i.a) rfl (aj rfl) rc (by rw [Y];rfl) (bI rfl) ?_;simp only [g];refine⟨by simp only [bN,big];exact zt (za lL 1) (zr 599999),?_⟩;exact h _ st.length L (fM p (bP _)) (bP _) (by rw [bh g];simp [br]) G
end
mutual
theorem dF:∀t:T,∀x ∈ t.dir,x ∈ t.ids
 | .mk a at_ k f s ai=>λx b=>by
  rw [T.lJ]at b;rcases List.mem_cons.mp b with rfl |b
  .exact cW
  .split at b
   .exact gh _ (pg ai x b)
   .cases b
theorem pg:∀k:TL,∀x ∈ k.dir,x ∈ k.ids
 | .z=>λx a=>by rw [TL.lJ]at a;cases a
 | .no r=>λx a=>by rw [TL.El]at a;rw [TL.cX];exact pg r x a
 | .c t r=>λx a=>by
  rw [TL.ye]at a;refine a_ (List.mem_append.mp a) (λa=> ?_) λa=> ?_
  .exact nT _ (dF t x a)
  .exact ry _ (pg r x a)
end
def mG{x y z:Bool}{t:T}{c:Core}(h:c ∈ t.aP x y z):c.1 ∈ t.ids:=(T.gQ x y z t).subset (List.mem_map.mpr ⟨c,h,rfl⟩)
def yk{x y z:Bool}{t:TL}{c:Core}(h:c ∈ t.aP x y z):c.1 ∈ t.ids:=(TL.gQ x y z t).subset (List.mem_map.mpr ⟨c,h,rfl⟩)
mutual
theorem wG(x y z:Bool):∀t:T,t.ids.Nodup->∀c ∈ t.aP x y z,c.2.2.2.1=(x&&decide (c.1 ∈ t.dir))
 | .mk a at_ k f s ai=>λd c b=>by
  rw [T.aU,lG]at d;rw [T.bF]at b;rw [T.lJ];refine a_ (List.mem_append.mp b) (λb=> ?_) λb=> ?_
  .split at b
   .cases b
   .rw [List.mem_singleton.mp b];simp
  .have h:=sO _ _ _ ai d.2 c b;have g:c.1≠a:=λe=>d.1 (e▸yk b);rw [h];cases e0 k<;>simp [g]
theorem sO(x y z:Bool):∀k:TL,k.ids.Nodup->∀c ∈ k.aP x y z,c.2.2.2.1=(x&&decide (c.1 ∈ k.dir))
 | .z=>λb c a=>by rw [TL.bF]at a;cases a
 | .no r=>λb c a=>by rw [TL.fy]at a;rw [TL.cX]at b;rw [TL.El];exact sO x y z r b c a
 | .c t r=>λb c a=>by
  rw [TL.dY]at a;rw [TL.cG,nc]at b;dsimp only [TL.ye];refine a_ (List.mem_append.mp a) (λa=> ?_) λa=> ?_
  .rw [wG x y z t b.1 c a];have:c.1 ∉ r.dir:=λh=>b.2.2 _ (mG a) _ (pg r _ h) rfl;simp [this]
  .rw [sO x y z r b.2.1 c a];have:c.1 ∉ t.dir:=λh=>b.2.2 _ (dF t _ h) _ (yk a) rfl;simp [this]
end
def Pj{k f:Int}(h:e0 k=true):e1 k f=true:=by simp [e0,e1]at h ⊢;simp [h]
mutual
theorem Iq(x y z:Bool)(d:x=true->y=true):∀t:T,∀c ∈ t.aP x y z,c.2.2.2.1=true->c.2.2.2.2.1=true
 | .mk a at_ k f s ai=>λc b h=>by
  rw [T.bF]at b;refine a_ (List.mem_append.mp b) (λb=> ?_) λb=> ?_
  .split at b
   .cases b
   .rw [List.mem_singleton.mp b]at h ⊢;exact d h
  .exact sP _ _ _ (λh=>by simp only [cM]at h ⊢;exact⟨d h.1,Pj h.2⟩) ai c b h
theorem sP(x y z:Bool)(b:x=true->y=true):∀k:TL,∀c ∈ k.aP x y z,c.2.2.2.1=true->c.2.2.2.2.1=true
 | .z=>λc a=>by rw [TL.bF]at a;cases a
 | .no r=>λc a=>by rw [TL.fy]at a;exact sP x y z b r c a
 | .c t r=>λc a=>by
  rw [TL.dY]at a;refine a_ (List.mem_append.mp a) (λa=> ?_) λa=> ?_
  .exact Iq x y z b t c a
  .exact sP x y z b r c a
end
noncomputable def T.sort:T->Int | .mk _ _ _ _ s _=>s
mutual
theorem ql(x y z:Bool):∀t:T,∀c ∈ t.aP x y z,∃n ∈ t.pre,n.a=c.1/\n.at_=c.2.1/\n.sort=c.2.2.1
 | .mk a at_ k f s ai=>λc b=>by
  rw [T.bF]at b;rcases List.mem_append.mp b with b |b
  .split at b
   .cases b
   .rw [List.mem_singleton.mp b];exact⟨_,cW,rfl,rfl,rfl⟩
  .refine aB (nU _ _ _ ai c b) λn d h=> ?_;exact⟨n,gh _ d,h⟩
theorem nU(x y z:Bool):∀k:TL,∀c ∈ k.aP x y z,∃n ∈ k.jG,n.a=c.1/\n.at_=c.2.1/\n.sort=c.2.2.1
 | .z=>λc a=>by rw [TL.bF]at a;cases a
 | .no r=>λc a=>by rw [TL.fy]at a;rw [TL.jW];exact nU x y z r c a
 | .c t r=>λc a=>by
  rw [TL.dY]at a;rcases List.mem_append.mp a with a |a
  .refine aB (ql x y z t c a) λn b h=> ?_;exact⟨n,nT _ b,h⟩
  .refine aB (nU x y z r c a) λn b h=> ?_;exact⟨n,ry _ b,h⟩
end
mutual
theorem yl:∀t:T,t.aG=true->∀n ∈ t.pre,n.aG=true
 | .mk a at_ k f s ai=>λg n b=>by
  rw [T.qR]at b;refine a_ (List.mem_cons.mp b) (λc=> ?_) λb=> ?_
  any_goals subst c
  .exact g
  .rw [T.je,cM]at g;exact qm ai g.2 n b
theorem qm:∀k:TL,k.aG=true->∀n ∈ k.jG,n.aG=true
 | .z=>λg n a=>by rw [TL.wD]at a;cases a
 | .no r=>λg n a=>by rw [TL.jW]at a;rw [TL.wH]at g;exact qm r g n a
 | .c t r=>λg n a=>by
  rw [TL.jX]at a;rw [TL.kF,cM]at g;refine a_ (List.mem_append.mp a) (λa=> ?_) λa=> ?_
  .exact yl t g.1 n a
  .exact qm r g.2 n a
end
def uQ{t:T}(g:t.aG=true):t.sort=mH t.kind t.ai:=by
 cases t with
 |mk a at_ k f s ai=>
  simp only [T.je,cM,beq_iff_eq]at g;exact g.1.1
def ym{t:T}(g:t.aG=true):ji t=(t.sort==1):=by
 rw [uQ g,ji,mH];by_cases h:t.kind=18
 .rw [if_pos h,h];cases Ei t.ai<;>decide
 .rw [if_neg h];have:(t.kind==18)=false:=by simp [h]
  rw [this,Ab];split
  .rfl
  .split
   .rfl
   .split<;>rfl
def CL{t:T}(g:t.aG=true):jF t.kind=[1,2].contains t.sort:=by
 rw [uQ g,mH];by_cases h:t.kind=18
 .rw [if_pos h,h];cases Ei t.ai<;>decide
 .rw [if_neg h];have e:jF t.kind=yo t.kind:=by
   simp only [jF,yo,List.contains_cons,List.contains_nil,Bool.or_false];have:(t.kind==18)=false:=by simp [h]
   rw [this,Bool.false_or];simp only [Bool.or_assoc]
  rw [e];cases yo t.kind
  .rw [if_neg (by decide)];split
   .rfl
   .split<;>rfl
  .rfl
noncomputable def sQ(c:Core):Bool:=c.2.2.1==1&&c.2.2.2.2.1
noncomputable def qS(c:Core):Bool:=[1,2].contains c.2.2.1&&c.2.2.2.2.2
noncomputable abbrev Ir(c:Core):Nat×Int:=(c.1,c.2.1)
abbrev EI(n:T):Nat×Int:=(n.a,n.at_)
mutual
theorem sup_spec(x y z:Bool):∀t:T,t.aG=true->((t.aP x y z).filter sQ).map Ir=if y=true then t.gM.map EI else []
 | .mk a at_ k f s ai=>λg=>by
  have c:=ym g;have g':=g;rw [T.je,cM]at g';rw [T.bF,T.z7,wJ,List.map_append,qn _ _ _ ai g'.2,c];dsimp only [T.sort];cases y
  .by_cases h:s=0<;>simp [h,sQ]
  .by_cases h:s=1
   .subst h;cases e1 k f<;>simp [sQ,EI,T.a,T.at_]
   .have:(s==1)=false:=by simp [h]
    by_cases b:s=0
    .subst b;cases e1 k f<;>exact(dw _)
    .cases e1 k f<;>simp [b,sQ,this,h]
theorem qn(x y z:Bool):∀k:TL,k.aG=true->((k.aP x y z).filter sQ).map Ir=if y=true then k.qi.map EI else []
 | .z=>λg=>by rw [TL.bF,TL.Eo];simp
 | .no r=>λg=>by rw [TL.fy,TL.z8];exact qn x y z r (by rw [TL.wH]at g;exact g)
 | .c t r=>λg=>by
  rw [TL.kF,cM]at g;rw [TL.dY,TL.z9,wJ,List.map_append,sup_spec x y z t g.1,qn x y z r g.2];cases y<;>simp
end
mutual
theorem mJ(x y z:Bool):∀t:T,t.aG=true->((t.aP x y z).filter qS).map Ir=if z=true then t.j9.map EI else []
 | .mk a at_ k f s ai=>λg=>by
  have c:jF k=[1,2].contains s:=CL g;have g':=g;rw [T.je,cM]at g';rw [T.bF,T.Bo,wJ,List.map_append,nW _ _ _ ai g'.2,c];cases z
  .by_cases h:s=0<;>simp [h,qS]
  .by_cases b:s=0
   .subst b;cases e2 k<;>exact(dw _)
   .rw [if_neg b];cases h:[1,2].contains s
    .have:[(a,at_,s,x,y,true)].filter qS=[]:=by simp only [List.filter_cons,qS,h];exact(dw _)
     rw [this];cases e2 k<;>simp
    .have:[(a,at_,s,x,y,true)].filter qS=[(a,at_,s,x,y,true)]:=by simp only [List.filter_cons,qS,h];exact(dw _)
     rw [this];cases e2 k<;>simp [EI,T.a,T.at_]
theorem nW(x y z:Bool):∀k:TL,k.aG=true->((k.aP x y z).filter qS).map Ir=if z=true then k.j_.map EI else []
 | .z=>λg=>by rw [TL.bF,TL.Ih];simp
 | .no r=>λg=>by rw [TL.fy,TL.Bp];exact nW x y z r (by rw [TL.wH]at g;exact g)
 | .c t r=>λg=>by
  rw [TL.kF,cM]at g;rw [TL.dY,TL.Bq,wJ,List.map_append,mJ x y z t g.1,nW x y z r g.2];cases z<;>simp
end
mutual
theorem Ac:∀t:T,t.uy.map T.a=t.dZ
 | .mk a at_ k f s ai=>by
  dsimp only [T.Ep,T.wK];split
  .rfl
  .split
   .exact sR ai
   .rfl
theorem sR:∀k:TL,k.rq.map T.a=k.dZ
 | .z=>rfl
 | .no r=>by rw [TL.Er,TL.Mb];exact sR r
 | .c t r=>by rw [TL.Es,TL.EJ,List.map_append,Ac t,sR r]
end
mutual
theorem sU:∀t:T,t.bare.a ∈ t.dir
 | .mk a at_ k f s ai=>by
  by_cases h:k=33
  .rw [T.jE,T.lJ,if_pos h];have:e0 k=true:=by rw [h];decide
   rw [if_pos this];refine a_ (CM (.mk a at_ k f s ai) ai) (λh=> ?_) λh=> ?_
   .rw [h];exact cW
   .exact gh _ h
  .rw [T.jE,T.lJ,if_neg h];exact cW
theorem CM(t:T):∀k:TL,k.uR t=t\/(k.uR t).a ∈ k.dir
 | .z=> .inl rfl
 | .no r=> .inl rfl
 | .c u r=> .inr (by rw [TL.uR,TL.ye];exact nT _ (sU u))
end
def zP(ν:Nat->Int)(l:List Nat):Prop:=l.Pairwise λa b=>ν a<ν b
def zP.sub{ν:Nat->Int}{l l':List Nat}(h:zP ν l)(s:l'.Sublist l):zP ν l':=List.Pairwise.sublist s h
def zP.inj{ν:Nat->Int}:∀{l:List Nat},zP ν l->∀a ∈ l,∀b ∈ l,ν a=ν b->a=b:=by
 intro zl
 induction zl with
 |nil=>
  intro _ a c _ _ _;cases c
 |cons x l g=>
  intro h a c b hb e;have h':=List.pairwise_cons.mp h;rcases List.mem_cons.mp c with d |c<;>rcases List.mem_cons.mp hb with f |hb
  .rw [d,f]
  .have:=h'.1 b hb;rw [<-d]at this;exact absurd e (Int.ne_of_lt this)
  .have:=h'.1 a c;rw [<-f]at this;exact absurd e (ux this)
  .exact g h'.2 a c b hb e
def jY{ν:Nat->Int}{U:List Nat}(h:zP ν U){a:Nat}{l:List Nat}(f:a ∈ U)(g:∀x ∈ l,x ∈ U):met ν (ν a) l=decide (a ∈ l):=by
 rw [Ad];simp only [met,CN,beq_iff_eq,decide_eq_true_eq];exact⟨λ⟨x,b,e⟩=>h.inj x (g x b) a f e▸b,λc=>⟨a,c,rfl⟩⟩
def wL{l l':List Int}(p:l'.Perm l)(h:l.Pairwise (·<=·)):l'.mergeSort=l:=by
 have s:=CO (le:=λa b:Int=>decide (a<=b)) (λa b c e d=>decide_eq_true (Int.le_trans (of_decide_eq_true e) (of_decide_eq_true d))) (λa b=>(CP _ _).mpr SX) l';exact((Ae l' _).trans p).eq_of_pairwise (λa b f f e d=>x_ e d) (by simpa using s) h
def uS{l l':List Int}(p:l'.Perm l):l'.mergeSort=l.mergeSort:=by
 have s:=CO (le:=λa b:Int=>decide (a<=b)) (λa b c e d=>decide_eq_true (Int.le_trans (of_decide_eq_true e) (of_decide_eq_true d))) (λa b=>(CP _ _).mpr SX) l;exact wL (p.trans (Ae l _).symm) (by simpa using s)
def zP.le{ν:Nat->Int}{l:List Nat}(h:zP ν l):(l.map ν).Pairwise (·<=·):=by
 rw [List.pairwise_map];exact h.imp λh=>uz h
def EK(i:Int)(r:List V):gK (.int i::r)=(gK r).map (i::·):=rfl
structure bG (M:Nat->Prop) (st st':St):Prop where
 len:st.length<=st'.length
 keep:∀a o,¬M a->st[a]? =some o->st'[a]? =some o
section
variable{M:Nat->Prop}{a b c:St}
def bG.refl(a:St):bG M a a:=⟨bP _,λf f f e=>e⟩
def bG.trans(x:bG M a b)(y:bG M b c):bG M a c:=⟨iA x.len y.len,λi o n e=>y.keep i o n (x.keep i o n e)⟩
def bG.pre(p:a <+: b):bG M a b:=⟨p.length_le,λf f f e=>ak p e⟩
def bG.RT(x:bG M a b):aC M a b:=⟨x.len,λi o n e f=>x.keep i o n e⟩
def bG.set{i:Nat}{o:O}(h:M i):bG M a (a.set i o):=⟨by simp,λj x n e=>aT (λz=>n (z▸h)) e⟩
def bG.app(l:St):bG M a (a++l):=bG.pre (eE _ _)
def bG.fresh{n:Nat}(x:bG (λi=>n<=i) a b)(h:a.length<=n):a <+: b:=by
 refine⟨b.drop a.length,?_⟩;apply List.ext_getElem?;intro i;rcases oO i a.length with q |q
 .rw [uw q,gO q];exact(x.keep i _ (Nat.not_le.mpr (zt q h)) (gO q)).symm
 .rw [Af q,List.getElem?_drop];rw [EL q]
end
section
variable{α:Type}{ve:Loc->St->KV->Prop}{vc:Loc->St->(Bool->St->Prop)->Prop}{x acc:Nat}{src:Option (Nat×List V)}{m:Loc}{st0:St}{K:KV}
def Src.pre{st e:St}(h:Src src st)(p:st <+: e):Src src e:=by
 cases src with
 |none=>trivial
 |some q=>exact ak p h
def EM(f:α->V)(g:α->Option V)(I:st0.length<=acc)(E:Src src st0):∀(l:List α) (ys:List V) (j:St),st0 <+: j->j[acc]? =some (.list ys)->ys.length+l.length<big->
  (∀v ∈ l,∀j,st0 <+: j->∀K:Bool->St->Prop,(∀k,j <+: k->K (g v).isSome k)->vc (m.set x (some (f v))) j K)->
  (∀v ∈ l,∀w,g v=some w->∀j,st0 <+: j->∀K:KV,(∀k,j <+: k->K w k)->ve (m.set x (some (f v))) j K)->
  (∀k,st0 <+: k->k[acc]? =some (.list (ys++l.filterMap g))->K (.ref acc) k)->compLoop ve vc x src acc m (l.map f) ys j K:=by
 intro zl
 induction zl with
 |nil=>
  intro ys j p h t u y z;exact⟨E.pre p,z j p (by simpa using h)⟩
 |cons v l G=>
  intro ys j p h t u y z;refine⟨E.pre p,u v cW j p _ λH o=> ?_⟩;simp only [cV]at t
  cases hg:g v with
  |none=>
   exact G ys H (p.trans o) (ak o h) (bK λA=>bx (jt _ _ _) (AN (AN (AN aE (AN aI aA)) aA) bg) (AN bg (AN aE aI)) (aH t A) rfl) (λv n=>u v (.tail _ n)) (λv n=>y v (.tail _ n)) λc q e=>z c q (by rw [e];simp [hg])
  |some w=>
   refine y v cW w hg H (p.trans o) _ λJ D=> ?_;have C:=ak D (ak o h);refine⟨C,(zt (za (zr _) 1) t),?_⟩;exact G (ys++ [w]) _ (fM ((p.trans o).trans D) I) (bh C) (by simp;exact bK λA=>bx (jt _ _ _) (AN (AN (AN aE (AN aI aA)) aA) bg) (AN bg (AN (AN aE aA) aI)) (aH t A) rfl) (λv n=>u v (.tail _ n)) (λv n=>y v (.tail _ n)) λc q e=>z c q (by rw [e];simp [hg])
def dQ(f:α->V)(g:α->Option V)(l:List α)(q:Src src st0)(n:l.length<900000)
  (k:∀v ∈ l,∀h,st0 <+: h->∀K:Bool->St->Prop,(∀e,h <+: e->K (g v).isSome e)->vc (m.set x (some (f v))) h K)
  (o:∀v ∈ l,∀w,g v=some w->∀h,st0 <+: h->∀K:KV,(∀e,h <+: e->K w e)->ve (m.set x (some (f v))) h K)
  (p:∀e,st0 <+: e->e[st0.length]? =some (.list (l.filterMap g))->K (.ref st0.length) e):compLoop ve vc x src st0.length m (l.map f) [] (st0++ [.list []]) K:=
 EM f g (bP _) q l [] _ (eE _ _) aD (by simp only [cY,big];exact bK λj=>bx (CC _) (AN (AN aE aA) (.num 1000000)) (AN (.num 900000) (AN oW aE)) (aH n j) rfl) k o (by simpa using p)
end
def Src.of{st:St}{u:Nat}{l:List V}(h:st[u]? =some (.list l)):Src (some (u,l)) st:=h
abbrev gR(ν:Nat->Int)(st:St)(a:Nat):Prop:=∃k w q f t,st[a]? =some (gF k w q f t (ν a))
theorem Rep.gR{lo hi:Nat}{ν:Nat->Int}{st:St}{t:T}(r:Rep lo hi ν st t):gR ν st t.a:=by
 refine aS (bD r) λw q f e f=> ?_;exact⟨_,w,q,_,_,e⟩
def Q7{cond:IL}{b:Bool}{C:aR}{m:Loc}{st:St}{K:Bool->St->Prop}(f:∀e:KV,e (.bool b) st->iB C cond m st e)(h:K b st):iB C cond m st (tr K):=f _ h
def iD{α:Type}{b:Bool}{v:α}:(if b=true then some v else none).isSome=b:=by cases b<;>rfl
def eF{α e:Type}(p:α->Bool)(g:α->e):∀l:List α,l.filterMap (λx=>if p x=true then some (g x)else none)=(l.filter p).map g:=by
 intro zl
 induction zl with
 |nil=>
  exact rfl
 |cons x l f=>
  rw [List.filterMap_cons,List.filter_cons,f];cases p x<;>rfl
section
variable{d:Nat}{st:St}{K:KV}{ν:Nat->Int}
def pn{u:Nat}{l:List Nat}(o:st[u]? =some (.list (l.map V.ref)))(C:∀a ∈ l,gR ν st a)(A:l.length<900000)(h:∀j y,st <+: j->j[y]? =some (.list (l.map λa=> .int (ν a)))->K (.ref y) j):aq (d+1) 55 [.ref u] st K:=by
 refine call_in Mc [some (.ref u),none] ?_ (by decide) rfl rfl rfl;dsimp only [Mc,ah,fZ,ig,h_];simp only [bq,bM,o];refine dQ V.ref (λa=>some (.int (ν a))) l (Src.of o) A (λa v g p K h=> ?_) (λa v w z g p K h=> ?_) λn p e=> ?_
 .dsimp only [nX];exact h g (bS _)
 .refine eS (C a v) λk D q f t e=> ?_;cases z;exact aK (aj rfl) (ak p e) rfl (h g (bS _))
 .dsimp only [ao,ay];refine h n _ p ?_;rw [e];simp [List.filterMap_eq_map]
noncomputable def Iu:Nat->Mk->Bool
 |2,m=>m.w0
 |3,m=>m.w1
 |4,m=>m.w2
 |_,_=>false
abbrev kY(sorts:List Int)(i:Nat)(m:Mk):Bool:=sorts.contains m.sort&&Iu i m
abbrev sV(ν:Nat->Int)(sorts:List Int)(i:Nat)(ms:List Mk):List Int:=((ms.filter (kY sorts i)).map λm=>ν m.a).mergeSort
structure sW (ν:Nat->Int) (st:St) (m:Mk):Prop where
 hit:st[m.h]? =some (vK m)
 node:∃k w q f,st[m.a]? =some (gF k w q f m.at_ (ν m.a))
def sW.pre{m:Mk}{g:St}(h:sW ν st m)(p:st <+: g):sW ν g m:=⟨ak p h.hit,h.node.imp λk=>sX λw=>sX λq=>sX λf e=>ak p e⟩
def ints_map:∀l:List Int,gK (l.map V.int)=some l:=by
 intro zl
 induction zl with
 |nil=>
  exact rfl
 |cons i l e=>
  simp [EK,e]
def kK{l:List Int}(h:l.length<=63):pq (l.map V.int)=some (l.mergeSort.map V.int):=by
 rw [pq,if_neg (by simp;exact h),ints_map]
def gS{C:aR}{m:Loc}{e:IE}{mk:Mk}{i:Nat}{v:V}{k:Int}(g:k=(i:Int))(j:∀f:KV,f (.ref mk.h) st->vE C e m st f)(hh:st[mk.h]? =some (vK mk))(l:[V.ref mk.a,.int mk.sort,.bool mk.w0,.bool mk.w1,.bool mk.w2,.bool mk.row][i]? =some v)(hi:i<1000)(h:K v st):vE C (.sub e (.n k)) m st K:=by
 subst g;refine j _ ?_;dsimp only [bV];simp only [hh];rw [if_neg (LW _),se,l];exact⟨⟨(zm _),(zu (zt hi (bI rfl)))⟩,(iT _),h⟩
def EN{C:aR}{m:Loc}{e:IE}{mk:Mk}{i j:Nat}{v:V}(g:m[j]? =some (some (.int (i:Int))))(k:∀f:KV,f (.ref mk.h) st->vE C e m st f)(hh:st[mk.h]? =some (vK mk))(l:[V.ref mk.a,.int mk.sort,.bool mk.w0,.bool mk.w1,.bool mk.w2,.bool mk.row][i]? =some v)(hi:i<1000)(h:K v st):vE C (.sub e (.l j)) m st K:=by
 refine k _ ?_;dsimp only [bq];simp only [g,hh];rw [if_neg (LW _),se,l];exact⟨⟨(zm _),(zu (zt hi (bI rfl)))⟩,(iT _),h⟩
def Iv{u i:Nat}{ms:List Mk}{sorts:List Int}(hi:i=2\/i=3\/i=4)(z:st[u]? =some (.list (ms.map λm=> .ref m.h)))(A:∀m ∈ ms,sW ν st m)(v:ms.length<=60)
  (h:∀l C,st <+: l->l[C]? =some (.list ((sV ν sorts i ms).map V.int))->K (.ref C) l):aq (d+1) 56 [.ref u,.tup (sorts.map V.int),.int i] st K:=by
 refine call_in Me [some (.ref u),some (.tup (sorts.map V.int)),some (.int i),none] ?_ (by decide) rfl rfl rfl;dsimp only [Me,ah,fZ,uT,ig,h_];simp only [bq,bM,z];refine dQ (λm:Mk=>V.ref m.h) (λm=>if kY sorts i m=true then some (.int (ν m.a))else none) ms (Src.of z) (zt (za v 1) (zr 899939)) (λmk o j p K h=> ?_) (λmk o w n j p K h=> ?_) λt p e=> ?_
 .have M:=(A mk o).pre p;have D:[V.ref mk.a,.int mk.sort,.bool mk.w0,.bool mk.w1,.bool mk.w2,.bool mk.row][i]? =some (.bool (Iu i mk)):=by rcases hi with rfl |rfl |rfl<;>rfl
  refine fu (λK h=>v9 (λK h=>gS rfl (aj rfl) M.hit rfl (bI rfl) h) (aj rfl) (ints_map _) h) (λK h=>EN rfl (aj rfl) M.hit D (a_ hi (λg=>(zt (za (ze g) 1) (bI rfl))) λg=>(a_ g (λg=>(zt (za (ze g) 1) (bI rfl))) λg=>(zt (za (ze g) 1) (bI rfl)))) h) ?_;have:=h j (bS _);rw [iD]at this;exact this
 .have M:=(A mk o).pre p;refine pA M.node λk G q f en=> ?_;cases hc:kY sorts i mk
  .rw [hc]at n;cases n
  .rw [hc,if_pos rfl]at n;cases n;exact aK (λH h'=>gS rfl (aj rfl) M.hit rfl (bI rfl) h') en rfl (h j (bS _))
 .have E:List.filterMap (λm=>if kY sorts i m=true then some (V.int (ν m.a))else none) ms=((ms.filter (kY sorts i)).map λm=>ν m.a).map V.int:=by rw [eF,gA];rfl
  rw [E]at e;have y:((ms.filter (kY sorts i)).map λm=>ν m.a).length<=63:=by
   have:=yq (kY sorts i) ms;simp only [bN];exact zt (zt this v) (zr 3)
  simp only [e,kK y];dsimp only [ao,ay];exact h _ t.length (cE p) aD
theorem uU:∀(l l':List Int),kq (vEq 4) (l.map V.int) (l'.map V.int)=some (l==l')
 | [],[]=>rfl
 | [],_::_=>rfl
 |_::_,[]=>rfl
 |a::l,b::l'=>by
  simp only [cP,wM,Ag,EO,uU l l'];rfl
def uV{C:aR}{m:Loc}{e1 e2:IE}{l l':List Int}{b:Bool}(hb:(l != l')=b)(v:∀K:KV,(∀e u,st <+: e->e[u]? =some (.list (l.map V.int))->K (.ref u) e)->vE C e1 m st K)
  (k:∀f,st <+: f->∀K:KV,(∀e u,f <+: e->e[u]? =some (.list (l'.map V.int))->K (.ref u) e)->vE C e2 m f K)
  (h:∀e,st <+: e->K (.bool b) e):vE C (.cmp .ne e1 e2) m st K:=by
 refine v _ λn y g q=> ?_;refine k n g _ λp w j t=> ?_;simp only [O6,two,fR,D7,ak j q,t,uU];have:=h p (g.trans j);rw [<-hb]at this;exact this
end
section
variable{ν:Nat->Int}{t:T}{ms:List Mk}
def qo{sorts:List Int}{i:Nat}{f:Core->Bool}(a:∀m,kY sorts i m=f (core m)){l:List Core}(P:(ms.map core).Perm l):((ms.filter (kY sorts i)).map λm=>ν m.a).Perm ((l.filter f).map λc=>ν c.1):=by
 have h:=(P.filter f).map λc:Core=>ν c.1;rw [CQ,gA]at h;have e:(f ∘ core)=kY sorts i:=funext λm=>(a m).symm;rw [e]at h;exact h
def EP{l:List Core}{l':List T}(h:l.map Ir=l'.map EI):l'.map (λn=>ν n.a)=l.map λc=>ν c.1:=by
 have:=congrArg (List.map λp:Nat×Int=>ν p.1) h;rw [gA,gA]at this;exact this.symm
def yr(hi:zP ν t.ids)(f:Core->Bool):(((t.aP true true true).filter f).map λc=>ν c.1).Pairwise (·<=·):=by
 have s:(((t.aP true true true).filter f).map (·.1)).Sublist t.ids:=(List.filter_sublist.map _).trans (T.gQ _ _ _ t);have:=(hi.sub s).le;rw [gA]at this;exact this
def ER(g:t.aG=true)(hi:zP ν t.ids)(P:(ms.map core).Perm (t.aP true true true)):t.gM.map (λn=>ν n.a)=sV ν [1] 3 ms:=by
 have a:=sup_spec true true true t g;rw [if_pos rfl]at a;rw [EP a];exact(wL (qo (λm=>by simp [kY,sQ,core,Iu];rfl) P) (yr hi sQ)).symm
def CS{L:List T}(g:t.aG=true)(P:(ms.map core).Perm (t.aP true true true))(b:L.Perm t.j9):(L.map λn=>ν n.a).mergeSort=sV ν [1,2] 4 ms:=by
 have a:=mJ true true true t g;rw [if_pos rfl]at a;refine uS ((b.map _).trans ?_);rw [EP a];exact(qo (λm=>rfl) P).symm
def ES(hi:zP ν t.ids)(P:(ms.map core).Perm (t.aP true true true))(b:t.dZ=((t.aP true true true).filter fY).map (·.1)):t.uy.map (λn=>ν n.a)=sV ν [3] 2 ms:=by
 have a:t.uy.map (λn=>ν n.a)=t.dZ.map ν:=by rw [<-Ac,gA];rfl
 rw [a,b,gA];exact(wL (qo (λm=>by simp [kY,fY,core,Iu];rfl) P) (yr hi fY)).symm
def kL(g:t.aG=true):t.gM.length<=(t.aP true true true).length:=by
 have a:=congrArg List.length (sup_spec true true true t g);rw [if_pos rfl,bN,bN]at a;rw [<-a];exact yq _ _
def ET(g:t.aG=true):t.j9.length<=(t.aP true true true).length:=by
 have a:=congrArg List.length (mJ true true true t g);rw [if_pos rfl,bN,bN]at a;rw [<-a];exact yq _ _
def Mf(g:t.aG=true):∀n ∈ t.gM,n.a ∈ t.ids:=λn f=>by
 have a:=sup_spec true true true t g;rw [if_pos rfl]at a;have:EI n ∈((t.aP true true true).filter sQ).map Ir:=by rw [a];exact List.mem_map.mpr ⟨n,f,rfl⟩
 refine aB (List.mem_map.mp this) λc b e=> ?_;have:=mG (List.mem_filter.mp b).1;simp only [Prod.mk.injEq]at e;rw [e.1]at this;exact this
def Iw(g:t.aG=true):∀n ∈ t.j9,n.a ∈ t.ids:=λn f=>by
 have a:=mJ true true true t g;rw [if_pos rfl]at a;have:EI n ∈((t.aP true true true).filter qS).map Ir:=by rw [a];exact List.mem_map.mpr ⟨n,f,rfl⟩
 refine aB (List.mem_map.mp this) λc b e=> ?_;have:=mG (List.mem_filter.mp b).1;simp only [Prod.mk.injEq]at e;rw [e.1]at this;exact this
end
def pB{lo hi:Nat}{ν:Nat->Int}{st:St}{t:T}(r:Rep lo hi ν st t):∀a ∈ t.ids,gR ν st a:=λa b=>by
 rw [<-jm]at b;refine aB (List.mem_map.mp b) λn e c=> ?_;subst c;exact(kJ r n e).gR
def wO(l:List T):br l=(l.map T.a).map V.ref:=by simp [br]
def wQ{ν:Nat->Int}(l:List T):(l.map T.a).map (λa=>V.int (ν a))=(l.map λn=>ν n.a).map V.int:=by simp
structure kg (ν:Nat->Int) (lo hi:Nat) (st:St) (s:T×List Mk):Prop where
 rep:Rep lo hi ν st s.1
 aG:s.1.aG=true
 perm:(s.2.map core).Perm (s.1.aP true true true)
 inc:zP ν s.1.ids
 len:s.2.length<=40
 size:s.1.ids.length<400000
 By:∀m ∈ s.2,sW ν st m
def kg.pre{ν:Nat->Int}{lo hi:Nat}{st a:St}{s:T×List Mk}(S:kg ν lo hi st s)(p:st <+: a):kg ν lo hi a s:={S with rep:=S.rep.pre p,By:=λm b=>(S.By m b).pre p}
section
variable{d:Nat}{st:St}{K:KV}{ν:Nat->Int}{lo hi:Nat}{m:Loc}
def kg.EU{s:T×List Mk}(S:kg ν lo hi st s):(s.1.aP true true true).length=s.2.length:=by rw [<-S.perm.length_eq,bN]
def BA{s:T×List Mk}(S:kg ν lo hi st s)(hh:hi<=st.length){e:IE}(x:∀K:KV,K (.ref s.1.a) st->vE (aq (d+3)) e m st K)(h:∀b u,st <+: b->b[u]? =some (.list ((sV ν [1] 3 s.2).map V.int))->K (.ref u) b):vE (aq (d+3)) (.u 55 (.u 34 e)) m st K:=by
 refine x _ ?_;refine wh S.rep S.aG hh S.size λy A c z k=> ?_;have sl:=kL S.aG;have j:=S.EU;have g:=S.len;rw [wO]at k;refine pn (ν:=ν) k (λa q=> ?_) (by rw [bN];exact zt (zt (zt (za sl 1) (za (ze j) 1)) (za g 1)) (zr 899959)) λp w l v=>h p w (c.trans l) ?_
 .refine aB (List.mem_map.mp q) λn o f=> ?_;subst f;exact pB (S.rep.pre c) _ (Mf S.aG n o)
 .rw [v,wQ,ER S.aG S.inc S.perm]
def yt{s:T×List Mk}(S:kg ν lo hi st s)(hh:hi<=st.length){e:IE}(y:∀K:KV,K (.ref s.1.a) st->vE (aq (d+3)) e m st K)(h:∀b u,st <+: b->b[u]? =some (.list ((sV ν [1,2] 4 s.2).map V.int))->K (.ref u) b):vE (aq (d+3)) (.sorted (.u 55 (.u 38 e))) m st K:=by
 refine y _ ?_;refine L4 S.rep hh S.size λz D L k A o j=> ?_;have sl:=ET S.aG;have f:=S.EU;have c:=S.len;have g:=j.length_eq;rw [wO]at o;refine pn (ν:=ν) o (λa x=> ?_) (by rw [bN];exact zt (zt (zt (zt (za (ze g) 1) (za sl 1)) (za (ze f) 1)) (za c 1)) (zr 899959)) λw C q p=> ?_
 .refine aB (List.mem_map.mp x) λn v l=> ?_;subst l;exact pB (S.rep.pre k) _ (Iw S.aG n (j.mem_iff.mp v))
 .rw [wQ]at p;simp only [p];rw [kK (by rw [bN];exact zt (zt (zt (zt (ze g) sl) (ze f)) c) (zr 23))];refine h _ w.length (cE (k.trans q)) ?_;rw [aD,CS S.aG S.perm j]
def kh{u i j:Nat}{ms:List Mk}{sorts:List Int}{e:IL}(hi:i=2\/i=3\/i=4)(o:m[j]? =some (some (.ref u)))(g:∀K:List V->St->Prop,K (sorts.map V.int) st->vL (aq (d+3)) e m st K)(f:st[u]? =some (.list (ms.map λm=> .ref m.h)))(l:∀m ∈ ms,sW ν st m)(c:ms.length<=60){n:Int}(k:n=i)
  (h:∀a b,st <+: a->a[b]? =some (.list ((sV ν sorts i ms).map V.int))->K (.ref b) a):vE (aq (d+3)) (.w 56 (.l j) (.tup e) (.n n)) m st K:=by
 subst k;dsimp only [cJ,aW];refine aj o _ ?_;refine g _ ?_;exact Iv hi f l c h
def pC{r:IB}{KS:KS}{l l':List Int}{a b:IE}(e:l=l')(j:∀K:KV,(∀c u,st <+: c->c[u]? =some (.list (l.map V.int))->K (.ref u) c)->vE (aq d) a m st K)
  (g:∀f,st <+: f->∀K:KV,(∀c u,f <+: c->c[u]? =some (.list (l'.map V.int))->K (.ref u) c)->vE (aq d) b m f K)
  (h:∀c,st <+: c->vB (aq d) r m c KS):vB (aq d) (.c (.i (.cmp .ne a b) .F) r) m st KS:=by
 refine uV (b:=false) (by subst e;simp) j g λc p=> ?_;rw [bz];dsimp only;exact h c p
end
section
variable{d:Nat}{st:St}{K:KV}{ν:Nat->Int}{lo hi:Nat}{k0:Nat}{MS:List Mk}
def Iz{KS:KS}{oa:Nat}{src:List V}{H C D G:Option V}(hh:hi<=st.length)(J:st[k0]? =some (.list (MS.map λm=> .ref m.h)))(E:st[oa]? =some (.list src)):∀(aM:List (T×List Mk)) (n:Nat) (A B:List Mk) (a:St) (l f g j:Option V),n=A.length->MS=A++flat aM++B->st <+: a->(∀s ∈ aM,kg ν lo hi st s)->
  (∀o l f g j,st <+: o->KS .next [some (.ref k0),H,some (.ref oa),C,D,l,f,g,j,G] o)->
  bC (λm st k=>vB (aq (d+3)) Q8 m st k) (kZ [5,6,7]) (some (oa,src)) (gH n aM) [some (.ref k0),H,some (.ref oa),C,D,l,f,g,j,G] a KS:=by
 intro zl
 induction zl with
 |nil=>
  intro n A B a l f g j e c p y w;exact⟨ak p E,w a l f g j p⟩
 |cons s aM N=>
  intro n A B a l f g j e c p y w;refine⟨ak p E,?_⟩;dsimp only [kZ,kM,cB,cA];have z:=ak p J;have S:=y s cW;have v:flat (s::aM)=s.2++flat aM:=rfl;rw [Q8,ah,cL,Pk];simp only [bq,cF,bM,z];have el:(List.drop ((n:Nat):Int).toNat (List.take ((n+s.2.length:Nat):Int).toNat (MS.map λm=>V.ref m.h)))=s.2.map λm=>V.ref m.h:=by
   rw [se,se,c,v,e];have:(A++(s.2++flat aM)++B).map (λm=>V.ref m.h)=(A.map λm=>V.ref m.h)++((s.2.map λm=>V.ref m.h)++((flat aM++B).map λm=>V.ref m.h)):=by simp
   rw [this,List.take_append,List.drop_append];simp
  refine⟨⟨(iT _),(Int.ofNat_le.mpr (zr _)),by rw [bN,c,v,e];simp;exact Int.not_lt.mp λI=>dJ (Pn _ _ _) (AI (AI (AI bH (AI jr D3)) ck) (AI jb jb)) (AI bH (AI jr D3)) (bE I (bE (iT _) (iT _))) rfl⟩,?_⟩;rw [el];simp only [cB,cA];rw [aa];have lp:=p.length_le;have sl:=S.len;refine pC rfl (λK h=>BA (S.pre (cE p)) (by simp;exact dP (zt hh lp)) (aj rfl) h)
   (λL b K h=>kh (.inr (.inl rfl)) rfl (λK h=>by simp only [cy,aW,iU,jR];exact h) (ak b aD) (λm c=>(S.By m c).pre ((cE p).trans b)) (zt sl (zr 20)) rfl h) λL b=> ?_
  refine pC rfl (λK h=>yt (S.pre ((cE p).trans b)) (by have:=b.length_le;simp at this;exact zt (zt hh lp) (zs this)) (aj rfl) h)
   (λs2 q K h=>kh (.inr (.inr rfl)) rfl (λK h=>by simp only [cy,aW,iU,jR,gT];exact h) (ak (b.trans q) aD) (λm c=>(S.By m c).pre (((cE p).trans b).trans q)) (zt sl (zr 20)) rfl h) λs2 q=> ?_
  exact N _ (A++s.2) B s2 _ _ _ _ (by simp [e]) (by rw [c,v];simp) (((cE p).trans b).trans q) (λx M=>y x (.tail _ M)) w
theorem yu:∀(n:Nat) (aM:List (T×List Mk)),(gH n aM).filterMap (λv=>match v with | .tup (x::_)=>some x |_=>none)=aM.map λs=>V.ref s.1.a
 |_,[]=>rfl
 |n,s::r=>by simp [gH,yu]
theorem qp:∀(n:Nat) (aM:List (T×List Mk)),∀v ∈ gH n aM,∃a b c,v= .tup [a,b,c]
 |_,[],v,h=>by cases h
 |n,s::r,v,h=>by
  refine a_ (List.mem_cons.mp h) (λe=> ?_) λh=> ?_
  any_goals subst e
  .exact⟨_,_,_,rfl⟩
  .exact qp _ r v h
def Mg{t pat:T}{own:Option T}{oa:Nat}{aM:List (T×List Mk)}{A B:List Mk}(hh:hi<=st.length)(hk:st[k0]? =some (.list (MS.map λm=> .ref m.h)))(U:st[oa]? =some (.list (gH A.length aM)))(hm:MS=A++flat aM++B)(hS:∀s ∈ aM,kg ν lo hi st s)
  (r:Rep lo hi ν st t) (hz:t.ids.length<400000) (hs:t.ai= .c pat (.no (oX own .z))) (hp:pat.vW=true) (a7:(pat.ini++own.toList).Perm (aM.map (·.1))) (bW:aM.length<=7)
  (h:∀M,st <+: M->K (.bool true) M):aq (d+4) 57 [.ref k0,.ref t.a,.ref oa,nu own] st K:=by
 refine call_in Mh [some (.ref k0),some (.ref t.a),some (.ref oa),some (nu own),none,none,none,none,none,none] ?_ (by decide) rfl rfl rfl;rw [Mh,ah,cL,cJ,aW,cJ,aW];refine aj rfl _ ?_;refine EF r hh hz hs hp λs1 u1 L p1 g a1 hL=> ?_;rw [wO]at a1;have j:=(hL.append_right _).trans a7;have G:=j.length_eq;rw [bN]at G;have y:∀x ∈ L++own.toList,Rep lo hi ν st x:=λx hx=>by
  refine aB (List.mem_map.mp (j.mem_iff.mp hx)) λs C e=> ?_;exact e▸(hS s C).rep
 refine pn (ν:=ν) a1 (λa ha=> ?_) (by rw [bN,G];exact zt (za bW 1) (zr 899992)) λs2 u2 p2 a2=> ?_
 .refine aB (List.mem_map.mp ha) λn hn zq2=> ?_;subst zq2;exact((y n hn).pre p1).gR
 rw [wQ]at a2;simp only [cB,cA,aa];have D:=p1.trans p2;have Q:∀z,st <+: z->vB (aq (d+3)) (.d (.yv [5,6,7] (.seq (.l 2)) Q8) (.ret .bt)) [some (.ref k0),some (.ref t.a),some (.ref oa),some (nu own),some (.ref u2),none,none,none,none,none] z (oM K):=λz u=>by
  dsimp only [ah,Lf,h_];simp only [bq,cF,bM,ak u U];refine Iz hh hk U aM _ A B z _ _ _ _ rfl hm u hS λc g g g g p=> ?_;dsimp only [aa,ah,fZ,bV,ao,ay];exact h c p
 dsimp only [ah,j6,xZ,uJ];have l1:((L++own.toList).map λn=>ν n.a).length<=63:=by rw [bN];exact zt (zt (ze G) bW) (zr 56)
 have b2:((L++own.toList).map λn=>ν n.a).mergeSort=((aM.map (·.1)).map λn:T=>ν n.a).mergeSort:=uS (j.map _);refine uV (b:=false) (l:=((L++own.toList).map λn=>ν n.a).mergeSort) (l':=((aM.map (·.1)).map λn:T=>ν n.a).mergeSort) (by rw [b2];simp) (λK h=> ?_) (λz u K h=> ?_) λz u=> ?_
 .dsimp only [uT];simp only [bq,cF,bM,a2,kK l1];exact h _ _ (eE _ _) aD
 .dsimp only [uT,cJ,aW,ig,h_];have J:=ak (D.trans u) U;simp only [bq,cF,bM,J];have I:gH A.length aM=(gH A.length aM).map id:=by simp
  rw [I];refine dQ id (λv=>match v with | .tup (x::_)=>some x |_=>none) (gH A.length aM) (by rw [<-I];exact J) (by rw [lC];exact zt (za bW 1) (zr 899992)) (λv Y E p K h=> ?_) (λv Y w hw E p K h=> ?_) λc3 p a3=> ?_
  .refine sM (qp _ _ v Y) λa b c H=> ?_;subst H;dsimp only [nX];exact h E (bS _)
  .refine sM (qp _ _ v Y) λa b c H=> ?_;subst H;cases hw;exact⟨(Int.not_lt.mp λg=>dJ (fP 0) (AI jb ck) jb g rfl),(Int.not_le.mp λg=>dJ (fP 0) (.num 4611686018427387904) jb g rfl),h E (bS _)⟩
  .dsimp only [cy];rw [yu]at a3;have e3:(aM.map λs=>V.ref s.1.a)=(aM.map λs=>s.1.a).map V.ref:=by simp
   rw [e3]at a3;refine pn (ν:=ν) a3 (λa ha=> ?_) (by rw [bN];exact zt (za bW 1) (zr 899992)) λs4 u4 p4 a4=> ?_
   .refine aB (List.mem_map.mp ha) λs C zq2=> ?_;subst zq2;exact((hS s C).rep.pre ((D.trans u).trans p)).gR
   .have e4:(aM.map λs=>s.1.a).map (λa=>V.int (ν a))=((aM.map (·.1)).map λn:T=>ν n.a).map V.int:=by simp
    rw [e4]at a4;simp only [a4];rw [kK (by simp only [bN];exact zt bW (zr 56))];exact h _ s4.length (cE (p.trans p4)) aD
 .dsimp only [bY];have N:=D.trans u;refine qk (q:=false) (λK h=>nS (aj rfl) (by simpa using h)) (λb4 K h=> ?_) ?_
  .cases own with
   |none=>cases b4
   |some o=>
    refine eS (((y o (by simp)).pre N).gR) λk w q f ta en=> ?_;have b1:=ak u a2;simp only [bq,RU,Pc,d_,jH,cF,bM,b1];have ix:(((L++(some o).toList).map λn=>ν n.a).map V.int)[(if(-((1:Nat):Int))<0 then-((1:Nat):Int)+(((L++(some o).toList).map λn=>ν n.a).map V.int).length else-((1:Nat):Int)).toNat]? =some (.int (ν o.a)):=by
     rw [if_pos (by decide)];have:(-((1:Nat):Int)+((((L++(some o).toList).map λn=>ν n.a).map V.int).length:Nat)).toNat=L.length:=by simp;rw [Int.add_comm (L.length:Int) 1,Int.neg_add_cancel_left,se]
     rw [this];simp
    rw [ix];refine⟨⟨by decide,(Int.not_le.mp λg=>dJ (fP _) (AI (.num 4611686018427387904) jb) (AI (.neg bH) bH) (bE g (iT _)) rfl)⟩,by rw [if_pos (by decide)];simp;exact Int.not_lt.mp λg=>dJ (fP _) (AI (AI (AI (.num (-1)) (AI bH ck)) ck) jb) (AI jb bH) (bE g (iT _)) rfl,?_⟩;have ov:nu (some o)= .ref o.a:=rfl;rw [ov];dsimp only;rw [en];show K (.bool (b_ .ne (ν o.a) (ν o.a))) z;simpa [b_]using h
  .rw [Bool.and_false,bz];dsimp only;exact Q z N
end
def CT:iM []=some []:=rfl
def uW(b:Bool)(r:List V):iM (.bool b::r)=(iM r).map (b::·):=rfl
section
variable{α:Type}{vb:Loc->St->KS->Prop}{i:Nat}{src:Option (Nat×List V)}{m:Loc}{st0:St}{KS:KS}
def lK(f:α->V)(p:α->Bool)(n:α->V)(k:Src src st0):∀(l:List α) (a:St) (x:Option V),st0 <+: a->
  (∀v ∈ l,∀a,st0 <+: a->∀KT:Mine.KS,(p v=true->∀c m',a <+: c->KT (.ret (n v)) m' c)->(p v=false->∀c,a <+: c->KT .next (m.set i (some (f v))) c)->vb (m.set i (some (f v))) a KT)->
  (∀v,l.find? p=some v->∀c m',st0 <+: c->KS (.ret (n v)) m' c)->(l.find? p=none->∀c x,st0 <+: c->KS .next (m.set i x) c)->
  bC vb (λv m=>some (m.set i (some v))) src (l.map f) (m.set i x) a KS:=by
 intro zl
 induction zl with
 |nil=>
  intro a x b hb g j;simp only [qg,bC];exact⟨k.pre b,j rfl a x b⟩
 |cons v l t=>
  intro a x b hb g j;simp only [cP,bC];refine⟨k.pre b,?_⟩;rw [List.set_set];refine hb v cW a b _ (λh c m' q=> ?_) λh c q=> ?_
  .dsimp only [jQ];exact g v (by simp [h]) c m' (b.trans q)
  .dsimp only [aQ];exact t c _ (b.trans q) (λv e=>hb v (.tail _ e)) (λv e=>g v (by simp [h,e])) λo=>j (by simp [h,o])
end
def jf(n:T):Bool:=n.kind==27&&(Builtin.bitAnd n.flags 256 != 0)
def gU(n:T)(i:Nat):Option T:=(n.ai.fX[i]?).join
def uX{n:T}{i:Nat}(h:i<n.ai.aZ.length):n.ai.aZ[i]? =some (nu (gU n i)):=by
 rw [eV]at h ⊢;rw [bN]at h;rw [yj,gU,gO h];rfl
structure EV (ν:Nat->Int) (lo hi:Nat) (st:St) (cls ML:T) (mem:List T):Prop where
 rep:Rep lo hi ν st cls
 kind:cls.kind=61
 TY:cls.ai.aZ[4]? =some (.ref ML.a)
 Mi:Rep lo hi ν st ML
 aZ:ML.ai.aZ=br mem
 Ah:∀n ∈ mem,Rep lo hi ν st n
 few:mem.length<=10
def EV.pre{ν:Nat->Int}{lo hi:Nat}{st a:St}{cls ML:T}{mem:List T}(c:EV ν lo hi st cls ML mem)(p:st <+: a):EV ν lo hi a cls ML mem:={c with rep:=c.rep.pre p,Mi:=c.Mi.pre p,Ah:=λn b=>(c.Ah n b).pre p}
section
variable{d:Nat}{st:St}{K:KV}{ν:Nat->Int}{lo hi:Nat}{cls ML:T}{mem:List T}{C:aR}{m:Loc}
def BB{e:IE}{K:It->St->Prop}(c:EV ν lo hi st cls ML mem)(a:∀K:KV,K (.ref cls.a) st->vE C e m st K)(h:∀q,st[q]? =some (.list (br mem))->K ⟨br mem,some (q,br mem)⟩ st):vI C (.seq (.attr (.sub (.attr e 3) (.n 4)) 3)) m st K:=by
 refine aS (bD c.Mi) λw q b e1 e2=> ?_;dsimp only [h_];refine aK (λf h'=>eW rfl a c.rep c.TY (bI rfl) h') e1 rfl ?_;rw [c.aZ]at e2;simp only [e2];exact h q e2
def Lg(c:EV ν lo hi st cls ML mem)(h:∀b u,st <+: b->b[u]? =some (.list (br (mem.filter jf)))->K (.ref u) b):aq (d+2) 9 [.ref cls.a] st K:=by
 refine call_in RV [some (.ref cls.a),none] ?_ (by decide) rfl rfl rfl;dsimp only [RV,ah,fZ,ig];refine BB c (aj rfl) λq eq=> ?_;refine dQ (λn:T=>V.ref n.a) (λn=>if jf n=true then some (V.ref n.a)else none) mem (Src.of eq) (by have:=c.few;exact zt (za this 1) (zr 899989)) (λn j a p K h=> ?_) (λn j w f a p K h=> ?_) λg p e=> ?_
 .have r:=(c.Ah n j).pre p;refine aS (bD r) λw q k e1 e2=> ?_;dsimp only [jd];simp only [cB,cA];refine fu (q:=Builtin.bitAnd n.flags 256 != 0) (λK h=>bZ (aj rfl) e1 rfl jV h) (λK h=> ?_) ?_
  .dsimp only [vE,vL,sY,cF,bM];exact sj r h
  .dsimp only [bz];have:=h a (bS _);rw [iD]at this;exact this
 .cases hc:jf n
  .rw [hc]at f;cases f
  .rw [hc,if_pos rfl]at f;cases f;exact aj rfl _ (h a (bS _))
 .dsimp only [ao,ay];refine h g _ p ?_;rw [e,eF]
def Po(c:EV ν lo hi st cls ML mem)(t:∀n ∈ mem,jf n=true->3<n.ai.aZ.length)(h:∀b,st <+: b->K (nu ((mem.filter jf).find? λn=>(gU n 3).isSome)) b):aq (d+3) 13 [.ref cls.a] st K:=by
 refine call_in Mj [some (.ref cls.a),none] ?_ (by decide) rfl rfl rfl;rw [Mj,ah,iu,h_,cJ,aW];refine aj rfl _ ?_;rw [cy];refine Lg c λo u f j=> ?_;simp only [j];refine lK (m:=[some (.ref cls.a),none]) (x:=none) (λn:T=>V.ref n.a) (λn=>(gU n 3).isSome) (λn=>V.ref n.a) (Src.of j) (mem.filter jf) o (bS _) (λn q a p KT v k=> ?_) (λn e c m' p=> ?_) λe c x p=> ?_
 .refine cR (List.mem_filter.mp q) λg w=> ?_;have r:=(c.Ah n g).pre (f.trans p);simp only [cB,cA]at k ⊢;rw [ah];refine aV (gU n 3).isSome (λl h'=>nS (λl h'=>eW rfl (aj rfl) r (uX (t n g w)) (bI rfl) h') (by simpa using h')) ?_;cases hk:(gU n 3).isSome
  .rw [if_neg (by decide),au,aa,au];exact k hk a (bS _)
  .rw [if_pos rfl,ah,fZ];refine aj rfl _ ?_;dsimp only [ao,ao];exact v hk a _ (bS _)
 .dsimp only [ao,ay];have:=h c (f.trans p);rw [e]at this;exact this
 .dsimp only [aa,ah,fZ,bV,ao,ay];have:=h c (f.trans p);rw [e]at this;exact this
def yw(p:T):Bool:=(match gU p 0 with
 |some n=>n.kind==8
 |none=>false)&& [16384,32768,65536,131072].any λf=>Builtin.bitAnd p.flags f != 0
def Pp{p n:T}(r:Rep lo hi ν st p)(u:Rep lo hi ν st n)(x:gU p 0=some n)(v:p.ai.aZ[0]? =some (.ref n.a))(h:∀b,st <+: b->K (.bool (yw p)) b):aq (d+2) 12 [.ref p.a] st K:=by
 refine call_in Ml [some (.ref p.a),none,none] ?_ (by decide) rfl rfl rfl;refine aS (bD u) λw q y e1 e2=> ?_;dsimp only [Ml,ah];dsimp only [vS,vE,vL,aa,cA,cB,Eg,Eh,Mm,Mn];dsimp only [ah,fZ,sq,nP];refine bZ (λz h'=>eW rfl (aj rfl) r v (bI rfl) h') e1 rfl EW ?_;have j:yw p=((n.kind==8)&& [16384,32768,65536,131072].any λf=>Builtin.bitAnd p.flags f != 0):=by rw [yw,x]
 by_cases c:n.kind=8
 .have e:b_ .eq n.kind 8=true:=by simp [b_,c]
  rw [e];dsimp only [bY];dsimp only [jd,Pq,ig,h_,bq];simp only [cF,bM];have t:[V.int 16384,V.int 32768,V.int 65536,V.int 131072]=[(16384:Int),32768,65536,131072].map V.int:=rfl;rw [t];refine dQ V.int (λf=>some (.bool (Builtin.bitAnd p.flags f != 0))) _ trivial (bI rfl) (λf o a p K h=> ?_) (λf o w l a p K h=> ?_) λg p e=> ?_
  .dsimp only [nX];exact h a (bS _)
  .cases l;dsimp only [vE,vL,cB,cA,cF,bM];exact sj (r.pre p) (h a (bS _))
  .simp only [e,List.filterMap_cons,List.filterMap_nil,CT,uW,Option.map];dsimp only [ao,ay];have:=h g p;rw [j,c]at this;exact this
 .have e:b_ .eq n.kind 8=false:=by simp [b_,c]
  rw [e];dsimp only [bY];dsimp only [ao,ay];have:=h st (bS _);have k:(n.kind==8)=false:=e;rw [j,k]at this;exact this
end
structure Q9 (lo hi:Nat) (ν:Nat->Int) (st:St) (p:T):Prop where
 rep:Rep lo hi ν st p
 pat:∃n,gU p 0=some n/\p.ai.aZ[0]? =some (.ref n.a)/\Rep lo hi ν st n
def Q9.pre{lo hi:Nat}{ν:Nat->Int}{st e:St}{p:T}(P:Q9 lo hi ν st p)(h:st <+: e):Q9 lo hi ν e p:=⟨P.rep.pre h,let ⟨n,a,b,c⟩:=P.pat;⟨n,a,b,c.pre h⟩⟩
abbrev jI(n:T):Bool:=(gU n 3).isSome
structure Ctor (lo hi:Nat) (ν:Nat->Int) (st:St) (mem ps:List T):Prop where
 four:∀n ∈ mem,jf n=true->3<n.ai.aZ.length
 ctor:∀f,(mem.filter jf).find? jI=some f->∃PL,f.ai.aZ[1]? =some (.ref PL.a)/\Rep lo hi ν st PL/\PL.ai.aZ=br ps
 RW:∀p ∈ ps,Q9 lo hi ν st p
 few:ps.length<=10
def Ctor.pre{lo hi:Nat}{ν:Nat->Int}{st b:St}{mem ps:List T}(P:Ctor lo hi ν st mem ps)(h:st <+: b):Ctor lo hi ν b mem ps:=
 {P with ctor:=λf e=>(P.ctor f e).imp λPL a=>⟨a.1,a.2.1.pre h,a.2.2⟩,RW:=λp c=>(P.RW p c).pre h}
abbrev jJ(mem ps:List T):List T:=if((mem.filter jf).find? jI).isSome=true then ps.filter yw else []
section
variable{d:Nat}{st:St}{K:KV}{ν:Nat->Int}{lo hi:Nat}{cls ML:T}{mem ps:List T}{C:aR}{m:Loc}
def EX(c:EV ν lo hi st cls ML mem)(Q:Ctor lo hi ν st mem ps)(h:∀b u,st <+: b->b[u]? =some (.list (br (jJ mem ps)))->K (.ref u) b):aq (d+4) 14 [.ref cls.a] st K:=by
 refine call_in Mp [some (.ref cls.a),none,none] ?_ (by decide) rfl rfl rfl;dsimp only [Mp,ah,cL,cJ,aW];refine aj rfl _ ?_;refine Po c Q.four λE k=> ?_;simp only [cB,cA,aa];dsimp only [ah];have rf:∀f,(mem.filter jf).find? jI=some f->Rep lo hi ν st f:=λf j=>c.Ah f (List.mem_filter.mp (CU j)).1;refine aV ((mem.filter jf).find? jI).isNone (λJ h'=>nS (aj rfl) (by simpa using h')) ?_
 cases j:(mem.filter jf).find? jI with
 |none=>
  rw [Option.isNone_none,if_pos rfl,ah];dsimp only [vS,vE,vL,ao,ay,big,cY];refine⟨by decide,h _ E.length (cE k) ?_⟩;rw [aD,jJ,j];rfl
 |some f=>
  refine eG (Q.ctor f j) λPL H rp z=> ?_;have L:=j;rw [Option.isNone_some,if_neg (by decide),au,aa,ah,fZ,ig,h_];refine aS (bD (rp.pre k)) λw q M e1 e2=> ?_;rw [z]at e2;refine aK (λJ h'=>eW rfl (aj rfl) ((rf f j).pre k) H (bI rfl) h') e1 rfl ?_;simp only [e2];refine dQ (λn:T=>V.ref n.a) (λn=>if yw n=true then some (V.ref n.a)else none) ps (Src.of e2) (by have:=Q.few;exact zt (za this 1) (zr 899989)) (λn y t p K h=> ?_) (λn y w l t p K h=> ?_) λv p e=> ?_
  .have P:=(Q.RW n y).pre (k.trans p);refine eG P.pat λa D A G=> ?_;dsimp only [jd,cJ,aW];refine aj rfl _ ?_;dsimp only [cy];refine Pp P.rep G D A λb I=> ?_;dsimp only [bz];have:=h b I;rw [iD]at this;exact this
  .cases hc:yw n
   .rw [hc]at l;cases l
   .rw [hc,if_pos rfl]at l;cases l;exact aj rfl _ (h t (bS _))
  .dsimp only [ao,ay];refine h v _ (k.trans p) ?_;rw [e,eF,jJ,j];rfl
def D4(n:T):Bool:=n.kind==62&&(!(Builtin.bitAnd n.flags 262144 != 0)&&(gU n 1).isSome)
def BC{x y z:IE}{p q r:Bool}(b:∀K:KV,K (.bool p) st->vE C x m st K)(a:∀K:KV,K (.bool q) st->vE C y m st K)(c:p=true->∀K:KV,K (.bool r) st->vE C z m st K)(h:K (.bool (p&&(q&&r))) st):vE C (.dh (.f x y z)) m st K:=by
 refine b _ ?_;cases p
 .exact h
 .dsimp only [bY];refine a _ ?_;cases q
  .exact h
  .dsimp only [bY];exact c rfl _ h
def Mq(c:EV ν lo hi st cls ML mem)(Q:Ctor lo hi ν st mem ps)(v:∀n ∈ mem,n.kind=62->1<n.ai.aZ.length)(h:∀j,st <+: j->K (.bool (mem.any D4||decide (0<(jJ mem ps).length))) j):aq (d+5) 36 [.ref cls.a] st K:=by
 refine call_in Mr [some (.ref cls.a),none] ?_ (by decide) rfl rfl rfl;rw [Mr,ah,iu];refine BB c (aj rfl) λq eq=> ?_;refine lK (m:=[some (.ref cls.a),none]) (x:=none) (λn:T=>V.ref n.a) D4 (λn=>V.bool true) (Src.of eq) mem st (bS _) (λn k f p KT D l=> ?_) (λn a c m' p=> ?_) λa E x p=> ?_
 .have r:=(c.Ah n k).pre p;refine aS (bD r) λw q G e1 e2=> ?_;simp only [cB,cA]at l ⊢;rw [ah];refine aV (D4 n) (λy h'=>BC (p:=n.kind==62) (λK h=>bZ (aj rfl) e1 rfl wU h) (λK h=> ?_)
   (λb K h=>nS (λy h'=>eW rfl (aj rfl) r (uX (v n k (by simpa using b))) (bI rfl) h') (by simpa using h)) h') ?_
  .dsimp only [vE,vL,wV,cF,bM];refine sj r ?_;dsimp only [bz];exact h
  .cases b:D4 n
   .rw [if_neg (by decide),au,aa,au];exact l b f (bS _)
   .rw [if_pos rfl,ah,fZ,bV,ao,ao];exact D b f _ (bS _)
 .dsimp only [ao,ay];have:=h c p;have e:=List.any_eq_true.mpr ⟨n,CU a,List.find?_some a⟩;rw [e,Bool.true_or]at this;exact this
 .dsimp only [aa,ah,fZ,d_,jh,cJ,aW];refine aj rfl _ ?_;refine EX (c.pre p) (Q.pre p) λz u t A=> ?_;simp only [A,bV,cv,b_];dsimp only [ao,ay];have:=h z (p.trans t);have e:mem.any D4=false:=by
   rw [yx]at a;rw [CV];exact a
  rw [e,Bool.false_or]at this;have e2:decide (((br (jJ mem ps)).length:Int)>0)=decide (0<(jJ mem ps).length):=by
   simp only [bN]
   congr 1
   exact Pr
  rw [e2];exact this
def nZ(ν:Nat->Int)(x:Nat)(t:T):Bool:=t.kind==43&&(match t.ai with
 | .c e _=>ν e.bare.a==ν x
 |_=>false)
def EY{t:T}(g:t.aG=true)(b:t.kind=43):∃u r,t.ai= .c u r/\u.aG=true:=by
 cases t with
 |mk a at_ k f s ai=>
  dsimp only [T.kind]at b;subst b;simp only [T.je,cM]at g
  cases ai with
  |z=>simp [HZ,nO]at g
  |no r=>simp [HZ,nO]at g
  |c u r=>
   have:=g.2;simp only [TL.kF,cM]at this;exact⟨u,r,rfl,this.1⟩
def Ms{body:T}{a:List T}{x:Nat}(r:Rep lo hi ν st body)(Q:body.ai.aZ=br a)(J:∀t ∈ a,Rep lo hi ν st t/\t.aG=true)(M:gR ν st x)(h:∀l,st <+: l->K (.bool (a.any (nZ ν x))) l):aq (d+2) 35 [.ref body.a,.ref x] st K:=by
 refine call_in Mu [some (.ref body.a),some (.ref x),none] ?_ (by decide) rfl rfl rfl;refine aS (bD r) λw q E e1 e2=> ?_;rw [Q]at e2;rw [Mu,ah,iu,h_];refine aK (aj rfl) e1 rfl ?_;simp only [e2];refine lK (m:=[some (.ref body.a),some (.ref x),none]) (x:=none) (λn:T=>V.ref n.a) (nZ ν x) (λn=>V.bool true) (Src.of e2) a st (bS _) (λn L f p KT G y=> ?_) (λn j c m' p=> ?_) λj D x p=> ?_
 .refine cR (J n L) λb N=> ?_;have b:=b.pre p;refine aS (bD b) λw q E f1 f2=> ?_;simp only [cB,cA]at y ⊢;rw [ah];refine aV (nZ ν x n) (λU h'=>qk (p:=n.kind==43) (λK h=>bZ (aj rfl) f1 rfl rO h) (λk K h=> ?_) h') ?_
  .refine lM (EY N (by simpa using k)) λu Y v A=> ?_;rw [v]at h;have z:Rep lo hi ν f u:=by have:=gJ b;rw [v]at this;exact this.1
   refine cR (yd _ (bP _) z A) λrb zz=> ?_;refine eS rb.gR λkb wb qb fb tb I=> ?_;refine eS M λkx wx qx fx tx ex=> ?_;have ex:=ak p ex;dsimp only [d_];refine aK (λU h'=> ?_) I rfl ?_
   .dsimp only [cJ,aW];refine eW rfl (aj rfl) b (by rw [v];exact rfl) (bI rfl) ?_;dsimp only [cy];exact Bk z A h'
   .refine aK (aj rfl) ex rfl ?_;exact h
  .cases k:nZ ν x n
   .rw [if_neg (by decide),au,aa,au];exact y k f (bS _)
   .rw [if_pos rfl,ah,fZ,bV,ao,ao];exact G k f _ (bS _)
 .dsimp only [ao,ay];have:=h c p;have e:=List.any_eq_true.mpr ⟨n,CU j,List.find?_some j⟩;rw [e]at this;exact this
 .rename_i H;have:=h D p;have e:a.any (nZ ν H)=false:=by
   rw [yx]at j;rw [CV];exact j
  rw [e]at this;exact this
end
def yy(n0:Nat)(st:St)(s:Nat×T):Prop:=∃a n,st[s.1]? =some (.inst 1 a)/\a.lookup 9=some (.int 6)/\a.lookup 10=some (.ref n)/\st[n]? =some (.list [.ref s.2.a])/\n<n0
structure Cx (n0:Nat) (ν:Nat->Int) (st:St) (x g o:Nat) (syms:List (Nat×T)) (cls:T):Prop where
 obj:∃fs b tb,st[x]? =some (.inst 15 fs)/\fs.lookup 21=some (.ref b)/\fs.lookup 22=some (.ref tb)/\fs.lookup 20=some (.ref g)/\fs.lookup 60=some (.ref o)/\fs.lookup 58=some .none/\fs.lookup 111=none/\fs.lookup 112=none/\fs.lookup 113=none/\
  (∃fb sy,st[b]? =some (.inst 2 fb)/\fb.lookup 15=some (.ref sy)/\st[sy]? =some (.list (.none::syms.map λs=> .ref s.1))/\sy<n0)/\
  (∃ft dl de fd,st[tb]? =some (.inst 6 ft)/\ft.lookup 23=some (.ref dl)/\st[dl]? =some (.list [.none,.ref de])/\st[de]? =some (.inst 7 fd)/\fd.lookup 6=some (.int (ν cls.a))/\dl<n0)
 sym:∀s ∈ syms,yy n0 st s
structure Lst (n0:Nat) (M:Nat->Prop) (st:St):Prop where
 lst:∀a,M a->n0<=a/\∃l,st[a]? =some (.list l)
def Lst.keep{n0:Nat}{M:Nat->Prop}{st b:St}(h:Lst n0 M st)(k:bG M st b){a j:Nat}{c:List (Nat×V)}(e:st[a]? =some (.inst j c)):b[a]? =some (.inst j c):=
 k.keep _ _ (λz=>by obtain ⟨_,l,f⟩:=h.lst a z;rw [e]at f;cases f) e
def Lst.low{n0:Nat}{M:Nat->Prop}{st b:St}(h:Lst n0 M st)(k:bG M st b){a:Nat}{o:O}(e:st[a]? =some o)(c:a<n0):b[a]? =some o:=
 k.keep _ _ (λz=>by have:=(h.lst a z).1;exact fV _ (zt c this)) e
def Cx.grow{n0:Nat}{M:Nat->Prop}{ν:Nat->Int}{st j:St}{x g o:Nat}{syms:List (Nat×T)}{cls:T}(c:Cx n0 ν st x g o syms cls)(h:Lst n0 M st)(k:bG M st j):Cx n0 ν j x g o syms cls:=by
 obtain ⟨⟨l,b,L,H,z,U,G,J,h6,I,Q,h9,⟨fb,E,b1,b2,D,t⟩,v,dl,de,w,N,u,y,A,t5,q⟩,Y⟩:=c;refine⟨⟨l,b,L,h.keep k H,z,U,G,J,h6,I,Q,h9,⟨fb,E,h.keep k b1,b2,h.low k D t,t⟩,v,dl,de,w,h.keep k N,u,h.low k y q,h.keep k A,t5,q⟩,λs p=> ?_⟩;refine mK (Y s p) λl n a b c e f=> ?_;exact⟨l,n,h.keep k a,b,c,h.low k e f,f⟩
def Cx.pre{n0:Nat}{ν:Nat->Int}{st a:St}{x g o:Nat}{syms:List (Nat×T)}{cls:T}(c:Cx n0 ν st x g o syms cls)(p:st <+: a):Cx n0 ν a x g o syms cls:=c.grow (M:=λb=>False) ⟨λb h=>h.elim⟩ (bG.pre p)
section
variable{d:Nat}{st:St}{K:KV}{ν:Nat->Int}{lo hi x g o n0:Nat}{cls ML:T}{mem ps:List T}{C:aR}{m:Loc}{syms:List (Nat×T)}
def IA{KT:KS}{s:Nat×T}{j:Option V}(c:Cx n0 ν st x g o syms cls)(I:yy n0 st s)(r:Rep lo hi ν st s.2)(y:s.2.kind=61)(A:ν s.2.a=ν cls.a->∀m',KT (.ret (.ref s.2.a)) m' st)(E:ν s.2.a≠ν cls.a->∀j,KT .next [some (.ref x),some (.int 1),some (.ref s.1),j] st):
  vB C Pu [some (.ref x),some (.int 1),some (.ref s.1),j] st KT:=by
 refine mK I λfs n l z J f a=> ?_;obtain ⟨⟨fx,b,Y,D,Q,H,_,_,_,_,_,_,_,M,dl,de,N,G,t,u,v,L,_⟩,_⟩:=c;refine aS (bD r) λw q U e1 e2=> ?_;dsimp only [Pu,ah];refine aV true (λk h'=>fu (p:=true) (λK h=>by simp only [bq,nv,cF,bM];exact h) (λK h=>bZ (aj rfl) l z Ai (by simpa [b_]using h)) h') ?_;rw [if_pos rfl,ah,iu,h_];refine aK (aj rfl) l J ?_;simp only [f,bC];refine⟨f,?_⟩;simp only [cB,cA];dsimp only [SY,ah];refine aV (ν s.2.a==ν cls.a) (λk h'=>fu (λK h=>bZ (aj rfl) e1 rfl kG (by simpa [b_,y]using h)) (λK h=> ?_) (by simpa using h')) ?_
 .dsimp only [d_];refine aK (aj rfl) e1 rfl ?_;refine aK (λk h'=> ?_) v L ?_
  .dsimp only [jH];refine aK (λk h'=>aK (aj rfl) D H h') G t ?_;simp only [bq,cF,bM,u];exact⟨⟨(Int.not_le.mp λa=>dJ (fP 0) ck (.neg (.num 4611686018427387904)) a rfl),(Int.not_le.mp λa=>dJ (fP 0) (.num 4611686018427387904) ck a rfl)⟩,by lia,h'⟩
  .exact h
 .by_cases e:ν s.2.a=ν cls.a
  .rw [if_pos (by simp [e]),ah,fZ];refine aj rfl _ ?_;dsimp only [ao,cS];exact A e _
  .rw [if_neg (by simp [e]),au,aa,au,aQ];refine⟨f,?_⟩;dsimp only [aa,au,aa,au];exact E e _
def IC{KS:KS}{src:Option (Nat×List V)}(p:Src src st)(c:Cx n0 ν st x g o syms cls):∀(l:List (Nat×T)) (b a:Option V),(∀s ∈ l,yy n0 st s/\Rep lo hi ν st s.2/\s.2.kind=61)->
  (∀s,l.find? (λs=>ν s.2.a==ν cls.a)=some s->∀m',KS (.ret (.ref s.2.a)) m' st)->(l.find? (λs=>ν s.2.a==ν cls.a)=none->∀b a,KS .next [some (.ref x),some (.int 1),b,a] st)->
  bC (λm st k=>vB C Pu m st k) (λv m=>some (m.set 2 (some v))) src (l.map λs=>V.ref s.1) [some (.ref x),some (.int 1),b,a] st KS:=by
 intro zl
 induction zl with
 |nil=>
  intro b a h j n;exact⟨p,n rfl _ _⟩
 |cons s l w=>
  intro b a h j n;refine⟨p,?_⟩;refine fD (h s cW) λu q t=> ?_;refine IA c u q t (λf m'=> ?_) λf a=> ?_
  .dsimp only [jQ];exact j s (by simp [f]) m'
  .dsimp only [aQ];exact w _ _ (λx e=>h x (.tail _ e)) (λx e=>j x (by simp [f,e])) λe=>n (by simp [f,e])
def Pw(c:Cx n0 ν st x g o syms cls)(j:∀s ∈ syms,Rep lo hi ν st s.2/\s.2.kind=61)(h:K (match syms.find? (λs=>ν s.2.a==ν cls.a)with |some s=> .ref s.2.a |none=> .none) st):aq (d+1) 8 [.ref x,.int 1] st K:=by
 refine call_in RX [some (.ref x),some (.int 1),none,none] ?_ (by decide) rfl rfl rfl;have l:=c;obtain ⟨⟨y,b,u,n,k,z,_,_,_,_,_,_,⟨D,A,b1,b2,e,_⟩,_⟩,f⟩:=c;rw [RX,ah,iu,h_];refine aK (λt h'=>aK (aj rfl) n k h') b1 b2 ?_;simp only [e,bC];refine⟨e,?_⟩;simp only [cB,cA];dsimp only [Pu,ah];refine aV false (λt h'=>qk (p:=false) (q:=false) (λK h=>by simp only [bq,nv,cF,bM];exact h) (λh=>by cases h) h') ?_;rw [if_neg (by decide),au,aa,au,aQ];refine IC (Src.of e) l syms _ _ (λs a=>⟨f s a,j s a⟩) (λs a m'=> ?_) λa w v=> ?_
 .dsimp only [ao,ay];rw [a]at h;exact h
 .dsimp only [aa,ah,fZ,bV,ao,ay];rw [a]at h;exact h
def Mv{a:Int}{s:Option (Nat×T)}(c:Cx n0 ν st x g o syms cls)(w:EV ν lo hi st cls ML mem)(hh:hi<=st.length)(D:∀n ∈ mem,n.ids.length<400000)(E:∀s ∈ syms,Rep lo hi ν st s.2/\s.2.kind=61)(b:syms.find? (λs=>ν s.2.a==ν cls.a)=s)(H:∀y,s=some y->y.2=cls)
  (h:∀j,st <+: j->K (.bool (s.isNone||(mem.filter jf).any λn=>met ν a (dz n.ai.aN))) j):aq (d+3) 11 [.ref x,.int 1,.int a] st K:=by
 refine call_in Mw [some (.ref x),some (.int 1),some (.int a),none,none] ?_ (by decide) rfl rfl rfl;dsimp only [Mw,ah,cL,cJ];dsimp only [vL,vE,cF,bM];refine Pw c E ?_;rw [b];dsimp only [aa,ah]
 cases s with
 |none=>
  refine aV true (λL h'=>by simp only [bq,nv,cF,bM,cB,cA];exact h') ?_;exact h st (bS _)
 |some y=>
  have J:=H y rfl;simp only [J];refine aV false (λL h'=>by simp only [bq,nv,cF,bM,cB,cA];exact h') ?_;rw [if_neg (by decide),au,aa,ah,iu,h_,cJ,aW];refine aj rfl _ ?_;dsimp only [cy];refine Lg w λG u f v=> ?_;simp only [v];refine lK (m:=[some (.ref x),some (.int 1),some (.int a),some (.ref cls.a),none]) (x:=none) (λn:T=>V.ref n.a) (λn=>met ν a (dz n.ai.aN)) (λn=>V.bool true) (Src.of v) _ G (bS _) (λn I M p KT A q=> ?_) (λn b c m' p=> ?_) λb z x p=> ?_
  .have t:=(List.mem_filter.mp I).1;have r:=(w.Ah n t).pre (f.trans p);have l1:=f.length_le;have l2:=p.length_le;simp only [cB,cA]at q ⊢;dsimp only [ah,j6,cJ,aW];refine aj rfl _ ?_;refine aj rfl _ ?_;refine En r (zt (zt hh l1) l2) (D n t) λl k=> ?_;dsimp only [bz];cases hk:met ν a (dz n.ai.aN)
   .dsimp only;exact q hk l k
   .dsimp only;exact A hk l _ k
  .dsimp only [ao,ay];have:=h c (f.trans p);have e:((mem.filter jf).any λn=>met ν a (dz n.ai.aN))=true:=List.any_eq_true.mpr ⟨n,CU b,by have:=List.find?_some b;exact this⟩;rw [e,Bool.or_true]at this;exact this
  .dsimp only [aa,ah,fZ,bV,ao,ay];have:=h z (f.trans p);have e:((mem.filter jf).any λn=>met ν a (dz n.ai.aN))=false:=by
    rw [yx]at b;rw [CV];exact b
   rw [e,Bool.or_false]at this;exact this
end
noncomputable abbrev yz(r:Int×Int):O:= .inst 3 [(24,.int r.1),(5,.int r.2),(25,.tup []),(26,.str 0)]
noncomputable abbrev dS(r:Int×Int):V:= .tup [.int r.1,.int r.2,.tup []]
noncomputable abbrev qT(r:Int×Int):V:= .tup [.int r.1,.int r.2]
structure nA (S:St) (ν:Nat->Int) (n0 x g o rl nl:Nat) (syms:List (Nat×T)) (cls:T) (rows nts:List (Int×Int)) (st:St):Prop where
 pre:S <+: st
 bd:S.length<=n0/\n0<=rl/\n0<=nl/\rl≠nl
 cx:Cx n0 ν st x g o syms cls
 dg:∃fg,st[g]? =some (.inst 4 fg)/\fg.lookup 27=some (.ref rl)/\fg.lookup 26=some (.str 0)/\fg.lookup 45=none
 nt:∃fo,st[o]? =some (.inst 5 fo)/\fo.lookup 27=some (.ref nl)/\fo.lookup 45=none
 rs:∃ds:List (Nat×(Int×Int)),rows=ds.map (·.2)/\st[rl]? =some (.list (ds.map λd=> .ref d.1))/\∀d ∈ ds,st[d.1]? =some (yz d.2)
 ns:st[nl]? =some (.list (nts.map qT))
abbrev Mt(rl nl:Nat)(a:Nat):Prop:=a=rl\/a=nl
section
variable{d:Nat}{S st:St}{K:KV}{ν:Nat->Int}{n0 x g o rl nl:Nat}{syms:List (Nat×T)}{cls:T}{rows nts:List (Int×Int)}{C:aR}{m:Loc}
def nA.lst(Q:nA S ν n0 x g o rl nl syms cls rows nts st):Lst n0 (Mt rl nl) st:=by
 refine eG Q.rs λc b e b=> ?_;refine⟨λa h=> ?_⟩;rcases h with rfl |rfl
 .exact⟨Q.bd.2.1,_,e⟩
 .exact⟨Q.bd.2.2.1,_,Q.ns⟩
def nA.more(Q:nA S ν n0 x g o rl nl syms cls rows nts st){a:St}(p:st <+: a):nA S ν n0 x g o rl nl syms cls rows nts a:=by
 refine iN Q.dg λf g1 g2 g3 g4=> ?_;refine eG Q.nt λc j o2 e=> ?_;refine eG Q.rs λh e0 e1 e2=> ?_;exact⟨Q.pre.trans p,Q.bd,Q.cx.pre p,⟨f,ak p g1,g2,g3,g4⟩,⟨c,ak p j,o2,e⟩,⟨h,e0,ak p e1,λd b=>ak p (e2 d b)⟩,ak p Q.ns⟩
def EZ:vEq 4 (.tup []) (.tup [])=some true:=rfl
def CW{a:Nat}{r:Int×Int}(h:K .none (st++ [yz r])):aq (d+1) 16 [.ref st.length,.int r.1,.int r.2,.tup [],.str 0] (st++ [.inst 3 []]) K:=by
 refine call_in Px [some (.ref st.length),some (.int r.1),some (.int r.2),some (.tup []),some (.str 0)] ?_ (by decide) rfl rfl rfl;exact rI (iJ (oQ rfl) rfl rfl (bI rfl) (iH (iJ (oQ rfl) rfl rfl (bI rfl) (iH (iJ (oQ rfl) rfl rfl (bI rfl) (iH (iJ (oQ rfl) rfl rfl (bI rfl) h)))))))
def ID{r:Int×Int}(Q:nA S ν n0 x g o rl nl syms cls rows nts st)(k:rows.length<900000)(h:∀c,nA S ν n0 x g o rl nl syms cls (rows++ [r]) nts c->bG (Mt rl nl) st c->K .none c):aq (d+2) 19 [.ref g,.int r.1,.int r.2,.tup []] st K:=by
 have L:=Q.lst;have u:=Q;refine iN Q.dg λl g1 g2 g3 g4=> ?_;refine eG Q.nt λp q o2 j=> ?_;refine eG Q.rs λf e0 e1 e2=> ?_;refine call_in Py [some (.ref g),some (.int r.1),some (.int r.2),some (.tup [])] ?_ (by decide) rfl rfl rfl;refine aK (aj rfl) g1 g2 ?_;simp only [e1];dsimp only [sZ];dsimp only [vL,bq,cF,bM];refine aK (aj rfl) g1 g3 ?_;refine CW (a:=0) ⟨rfl,?_⟩;have e:=aJ e1;have t:=aJ Q.ns;rw [bQ e1];refine⟨by simp only [bN,big];have:=congrArg List.length e0;simp at this;exact zt (zt (za (zf this) 1) k) (zr 100000),?_⟩;have k1:bG (Mt rl nl) st ((st++ [yz r]).set rl (.list (f.map (λd=>V.ref d.1)++ [V.ref st.length]))):=(bG.app [yz r]).trans (bG.set (.inl rfl));have n:=Q.bd;refine h _ ⟨fM (cE Q.pre) (zt n.1 n.2.1),Q.bd,Q.cx.grow L k1,⟨l,L.keep k1 g1,g2,g3,g4⟩,⟨p,L.keep k1 q,o2,j⟩,⟨f++ [(st.length,r)],by simp [e0],?_,λdd b=> ?_⟩,?_⟩ k1
 .rw [bh (bQ e1)];simp
 .rcases List.mem_append.mp b with b |b
  .exact L.keep k1 (e2 dd b)
  .rw [List.mem_singleton.mp b];exact aT (by simp;exact zl e) aD
 .exact aT n.2.2.2 (bQ Q.ns)
def jn{e:IE}{a f k g':Nat}{c:List (Nat×V)}{b:IL}(l:∀j:KV,j (.ref a) st->vE C e m st j)(p:st[a]? =some (.inst k c))(n:c.lookup f=none)(t:fj k f=some g')(q:g'<60)(h:vL C b m st λvs st=>C g' (.ref a::vs) st K):vE C (.kN e f b) m st K:=by
 refine l _ ?_;simp only [p,n,t];exact⟨q,h⟩
def IF{r:Int×Int}(Q:nA S ν n0 x g o rl nl syms cls rows nts st)(A:r ∉ rows)(z:rows.length<900000)(h:∀a,nA S ν n0 x g o rl nl syms cls (rows++ [r]) nts a->bG (Mt rl nl) st a->K .none a):aq (d+3) 29 [.ref x,.int r.1,.int r.2,.tup []] st K:=by
 refine iN Q.dg λfg g1 g2 g3 g4=> ?_;refine eG Q.rs λy e0 e1 e2=> ?_;refine cN Q.cx.obj λU b M e G Y l J h6 I N h9 v=> ?_;refine call_in Pz [some (.ref x),some (.int r.1),some (.int r.2),some (.tup []),none] ?_ (by decide) rfl rfl rfl;refine aK (λt h'=>aK (aj rfl) e l h') g1 g2 ?_;simp only [e1];have ln:=congrArg List.length e0;rw [bN]at ln;refine lK (m:=[some (.ref x),some (.int r.1),some (.int r.2),some (.tup []),none]) (x:=none) (λd:Nat×(Int×Int)=>V.ref d.1) (λd=>d.2.1==r.1&&(d.2.2==r.2&&true)) (λn=>V.none) (Src.of e1) y st (bS _) (λdd u f p KT w q=> ?_) (λdd j c m' p=> ?_) λj H L p=> ?_
 .have k:=ak p (e2 dd u);simp only [cB,cA]at q ⊢;dsimp only [ah];refine aV (dd.2.1==r.1&&(dd.2.2==r.2&&true)) (λt h'=>BC (λK h=> ?_) (λK h=> ?_) (λv K h=> ?_) h') ?_
  .exact rL (aj rfl) k rfl rfl h
  .exact rL (aj rfl) k rfl rfl h
  .dsimp only [d_];refine aK (aj rfl) k rfl ?_;refine aj rfl _ ?_;dsimp only [j5,D7,EZ];exact h
  .cases hk:(dd.2.1==r.1&&(dd.2.2==r.2&&true))
   .rw [if_neg (by decide),au,aa,au];exact q hk f (bS _)
   .rw [if_pos rfl,ah,RY,ao,ao];exact w hk f _ (bS _)
 .exfalso;have e:=List.find?_some j;simp only [Bool.and_true,cM,beq_iff_eq]at e;exact A (by rw [e0];exact List.mem_map.mpr ⟨dd,CU j,Prod.ext e.1 e.2⟩)
 .have D:=Q.more p;refine jn (λt h'=>aK (aj rfl) (ak p e) l h') (ak p g1) g4 CX (by decide) ?_;refine ID D z λa E k2=> ?_;exact h a E ((bG.pre p).trans k2)
def s_{a:Nat}{n t:Int}(Q:nA S ν n0 x g o rl nl syms cls rows nts st)(l:∃k w q f nd,st[a]? =some (gF k w q f t nd))(j:(n,t) ∉ rows)(e:rows.length<900000)(h:∀c,nA S ν n0 x g o rl nl syms cls (rows++ [(n,t)]) nts c->bG (Mt rl nl) st c->K .none c):aq (d+4) 28 [.ref x,.int n,.ref a,.tup []] st K:=by
 refine eS l λk w q f nd en=> ?_;refine cN Q.cx.obj λD b y u A E J L H v z I G=> ?_;refine call_in PA [some (.ref x),some (.int n),some (.ref a),some (.tup [])] ?_ (by decide) rfl rfl rfl;refine jn (aj rfl) u v yC (by decide) ?_;refine aj rfl _ ?_;refine aK (aj rfl) en rfl ?_;refine aj rfl _ ?_;refine IF Q j e λc p k2=> ?_;exact h c p k2
def IG{a:Nat}{n t:Int}(Q:nA S ν n0 x g o rl nl syms cls rows nts st)(D:∃k w q f nd,st[a]? =some (gF k w q f t nd))(y:nts.length<900000)(h:∀c,nA S ν n0 x g o rl nl syms cls rows (nts++ [(n,t)]) c->bG (Mt rl nl) st c->K .none c):aq (d+4) 30 [.ref x,.int n,.ref a] st K:=by
 have L:=Q.lst;refine eS D λk w q f nd en=> ?_;refine iN Q.dg λA g1 g2 g3 g4=> ?_;refine eG Q.nt λE e o2 j=> ?_;refine eG Q.rs λv e0 e1 e2=> ?_;refine cN Q.cx.obj λU b M p G Y I u h6 J N h9 H=> ?_;refine call_in PB [some (.ref x),some (.int n),some (.ref a)] ?_ (by decide) rfl rfl rfl;refine jn (λK' h'=>aK (aj rfl) p u h') e j CY (by decide) ?_;refine aj rfl _ ?_;refine aK (aj rfl) en rfl ?_;refine call_in PC [some (.ref o),some (.int n),some (.int t)] ?_ (by decide) rfl rfl rfl;refine aK (aj rfl) e o2 ?_;simp only [cy,aW,bq,yh,cF,bM,Q.ns];refine⟨by simp only [bN,big];exact zt y (zr 100000),?_⟩;have k1:bG (Mt rl nl) st (st.set nl (.list (nts.map qT++ [.tup [.int n,.int t]]))):=bG.set (.inr rfl);have nn:=Q.bd;refine h _ ⟨fM Q.pre (zt nn.1 nn.2.2.1),Q.bd,Q.cx.grow L k1,⟨A,L.keep k1 g1,g2,g3,g4⟩,⟨E,L.keep k1 e,o2,j⟩,⟨v,e0,aT (λz=>nn.2.2.2 z.symm) e1,λdd l=>L.keep k1 (e2 dd l)⟩,?_⟩ k1;rw [bh Q.ns];simp
end
mutual
theorem rP:∀t:T,∀n ∈ t.gM,n ∈ t.pre
 | .mk a at_ k f s ai=>λn b=>by
  rw [T.z7]at b;refine a_ (List.mem_append.mp b) (λb=> ?_) λb=> ?_
  .split at b
   .rw [List.mem_singleton.mp b];exact cW
   .cases b
  .split at b
   .exact gh _ (tg ai n b)
   .cases b
theorem tg:∀k:TL,∀n ∈ k.qi,n ∈ k.jG
 | .z=>λn a=>by rw [TL.Eo]at a;cases a
 | .no r=>λn a=>by rw [TL.z8]at a;rw [TL.jW];exact tg r n a
 | .c t r=>λn a=>by
  rw [TL.z9]at a;refine a_ (List.mem_append.mp a) (λa=> ?_) λa=> ?_
  .exact nT _ (rP t n a)
  .exact ry _ (tg r n a)
end
structure PI where
 t:T
 pat:T
 own:Option T
 aM:List (T×List Mk)
structure E0 (ν:Nat->Int) (lo hi:Nat) (S:St) (p:PI):Prop where
 rep:Rep lo hi ν S p.t
 size:p.t.ids.length<400000
 shape:p.t.ai= .c p.pat (.no (oX p.own .z))
 wf:p.pat.vW=true
 ini:(p.pat.ini++p.own.toList).Perm (p.aM.map (·.1))
 seg:∀s ∈ p.aM,kg ν lo hi S s
 len:p.aM.length<=7
abbrev rowOf(n:T):Int×Int:=(2336,n.at_)
abbrev pD(t:T):List (Int×Int):=t.gM.map rowOf
abbrev n_(p:PI):List (Int×Int):=(p.aM.map λs=>pD s.1).flatten
section
variable{d:Nat}{S st:St}{K:KV}{ν:Nat->Int}{lo hi n0 x g o rl nl:Nat}{syms:List (Nat×T)}{cls:T}{rows nts:List (Int×Int)}{C:aR}{m:Loc}
def Rep.attr{t:T}(r:Rep lo hi ν st t):∃k w q f nd,st[t.a]? =some (gF k w q f t.at_ nd):=by
 refine aS (bD r) λw q a e a=> ?_;exact⟨_,w,q,_,_,e⟩
def CZ{KS:KS}{u:Nat}{src:List V}{J L E H G A w:Option V}(I:u≠rl/\u≠nl):∀(l:List T) (rows:List (Int×Int)) (a:St) (e:Option V),nA S ν n0 x g o rl nl syms cls rows nts a->a[u]? =some (.list src)->(∀n ∈ l,Rep lo hi ν S n)->(rows++l.map rowOf).Nodup->rows.length+l.length<800000->
  (∀f e,nA S ν n0 x g o rl nl syms cls (rows++l.map rowOf) nts f->bG (Mt rl nl) a f->KS .next [some (.ref x),J,L,E,H,G,e,A,w] f)->
  bC (λm st k=>vB (aq (d+4)) (.e (.ex (.kN (.l 0) 112 (.f (.n 2336) (.l 6) (.tup .z))))) m st k) (λv m=>some (m.set 6 (some v))) (some (u,src)) (br l) [some (.ref x),J,L,E,H,G,e,A,w] a KS:=by
 intro zl
 induction zl with
 |nil=>
  intro rows a e Q j t p h q;exact⟨j,q a e (by simpa using Q) (bG.refl _)⟩
 |cons n l zi=>
  intro rows a e Q j t p h q;refine⟨j,?_⟩;simp only [cB,cA];refine cN Q.cx.obj λfs b tb U h2 h3 h4 h5 h6 h7 Y h9 D=> ?_;simp only [cV]at h;rw [ah,gy];refine jn (aj rfl) U Y lN (by decide) ?_;dsimp only [vL,vE,cF,bM];refine s_ Q ((t n cW).pre Q.pre).attr (λhm=> ?_) (zt (zt (za (zr _) 1) h) (bI rfl)) λc Q2 k2=> ?_
  .simp only [cP,nc]at p;exact p.2.2 _ hm _ cW rfl
  .rw [aa,au,aQ];refine zi _ c _ Q2 (k2.keep _ _ (λz=>z.elim I.1 I.2) j) (λy hy=>t y (.tail _ hy)) (by simpa using p) (by simp;exact bK λD=>bx (fL _ _) (AN (AN (AN aE (AN aI aA)) aA) (.num 800000)) (AN (.num 800000) (AN (AN aE aA) aI)) (aH h D) rfl) λM e N k3=>q M e (by simpa using N) (k2.trans k3)
def nA.RZ(Q:nA S ν n0 x g o rl nl syms cls rows nts st):rl<st.length/\nl<st.length:=by
 refine eG Q.rs λb a e a=> ?_;exact⟨aJ e,aJ Q.ns⟩
def E1{KS:KS}{u:Nat}{src:List V}{Y a2 L M I H:Option V}(U:u≠rl/\u≠nl)(hh:hi<=S.length):∀(l:List T) (rows:List (Int×Int)) (a:St) (f e:Option V),nA S ν n0 x g o rl nl syms cls rows nts a->a[u]? =some (.list src)->(∀n ∈ l,Rep lo hi ν S n/\n.aG=true/\n.ids.length<400000/\n.gM.length<=100)->(rows++(l.map pD).flatten).Nodup->rows.length+100*l.length<700000->
  (∀h f e,nA S ν n0 x g o rl nl syms cls (rows++(l.map pD).flatten) nts h->bG (Mt rl nl) a h->KS .next [some (.ref x),Y,a2,L,M,f,e,I,H] h)->
  bC (λm st k=>vB (aq (d+4)) R0 m st k) (λv m=>some (m.set 5 (some v))) (some (u,src)) (br l) [some (.ref x),Y,a2,L,M,f,e,I,H] a KS:=by
 intro zl
 induction zl with
 |nil=>
  intro rows a f e Q p G q j A;exact⟨p,A a f e (by simpa using Q) (bG.refl _)⟩
 |cons n l zi=>
  intro rows a f e Q p G q j A;refine⟨p,?_⟩;simp only [cB,cA];simp only [cV]at j;refine qs (G n cW) λJ gn N sn=> ?_;have lS:=Q.pre.length_le;rw [R0,ah,iu,h_,cJ,aW];refine aj rfl _ ?_;refine wh (J.pre Q.pre) gn (zt hh lS) N λs1 u1 D t e1=> ?_;simp only [e1];have Q1:=Q.more D;have b:=Q.RZ;rw [cP,iX,<-fW]at q;refine CZ ⟨(zg (zt b.1 t)),(zg (zt b.2 t))⟩ n.gM rows s1 _ Q1 e1 (λy E=>kJ J y (rP n y E)) (List.nodup_append.mp q).1 (bK λw=>bx (jt _ _ _) (AN (AN (AN aE (.mulL 100 (AN aI aA))) aA) (AN bg (.num 800000))) (AN (.num 700000) (AN (.num 100) (AN aE bg))) (aH j (aH sn w)) rfl) λc e Q2 k2=> ?_;refine zi _ c _ _ Q2 (k2.keep _ _ (λz=>z.elim U.1 U.2) (ak D p)) (λy E=>G y (.tail _ E)) q (by simp;exact bK λw=>bx (jt _ _ _) (AN (AN (AN aE (.mulL 100 (AN aI aA))) aA) (AN bg (.num 700000))) (AN (.num 700000) (AN (.num 100) (AN (AN aE bg) (.mulL 100 aI)))) (aH j (aH sn w)) rfl) λc' f e Q3 k3=>A c' f e (by simpa using Q3) (((bG.pre D).trans k2).trans k3)
def E2{KS:KS}{u:Nat}{src:List V}{a1 a2 a4 a7 a8:Option V}(hu:u≠rl/\u≠nl)(hh:hi<=S.length):∀(l:List PI) (rows:List (Int×Int)) (f:St) (q n j:Option V),nA S ν n0 x g o rl nl syms cls rows nts f->f[u]? =some (.list src)->(∀p ∈ l,E0 ν lo hi S p)->(rows++(l.map n_).flatten).Nodup->rows.length+1000*l.length<700000->
  (∀t q n j e,e.Perm (rows++(l.map n_).flatten)->nA S ν n0 x g o rl nl syms cls e nts t->bG (Mt rl nl) f t->KS .next [some (.ref x),a1,a2,q,a4,n,j,a7,a8] t)->
  bC (λm st k=>vB (aq (d+4)) R1 m st k) (λv m=>some (m.set 3 (some v))) (some (u,src)) (br (l.map (·.t))) [some (.ref x),a1,a2,q,a4,n,j,a7,a8] f KS:=by
 intro zl
 induction zl with
 |nil=>
  intro rows f q n j Q I hr hn G U;exact⟨I,U f q n j rows (by simp) Q (bG.refl _)⟩
 |cons p l zi=>
  intro rows f q n j Q I hr hn G U;refine⟨I,?_⟩;simp only [cB,cA];simp only [cV]at G;have P:=hr p cW;have lS:=Q.pre.length_le;rw [R1,ah,iu,h_,cJ,aW];refine aj rfl _ ?_;refine EF (P.rep.pre Q.pre) (zt hh lS) P.size P.shape P.wf λs1 u1 L Y M e1 hL=> ?_;simp only [e1];have Q1:=Q.more Y;have b:=Q.RZ;have H:=(hL.append_right _).trans P.ini;have J:((L++p.own.toList).map pD).flatten.Perm (n_ p):=by
   have:=(H.map pD).flatten;rw [gA]at this;exact this
  rw [cP,iX,<-fW]at hn;have N:=(((J.append_left rows).append_right _).nodup_iff).mpr hn;have bW:=H.length_eq;rw [bN]at bW;have pl:=P.len;refine E1 (lo:=lo) ⟨(zg (zt b.1 M)),(zg (zt b.2 M))⟩ hh (L++p.own.toList) rows s1 _ _ Q1 e1 (λy E=> ?_) (List.nodup_append.mp N).1 (bK λw=>bx (oJ _ _ _ _) (AN (AN (AN aE (.mulL 1000 (AN aI aA))) aA) (AN (.mulL 100 bg) (AN (.mulL 100 dm) (.num 700000)))) (AN (.num 700000) (AN (.mulL 100 dm) (AN (.mulL 100 (.num 7)) (AN aE (.mulL 100 bg))))) (aH G (aH (fJ 100 (ze bW)) (aH (fJ 100 pl) w))) rfl) λc n j Q2 k2=> ?_
  .refine aB (List.mem_map.mp (H.mem_iff.mp E)) λs D A=> ?_;subst A;have sg:=P.seg s D;have l1:=kL sg.aG;have l2:=sg.EU;have l3:=sg.len;exact⟨sg.rep,sg.aG,sg.size,(zt (zt (zt l1 (ze l2)) l3) (zr 60))⟩
  .rw [aa,au,aQ];have b3:((L++p.own.toList).map pD).flatten.length<=700:=by
    have h1:∀l:List T,(∀y ∈ l,y.gM.length<=100)->((l.map pD).flatten).length<=100*l.length:=λl=>by
     induction l with
     |nil=>intro _;exact(bP _)
     |cons y l ih=>
      intro h;have a:=h y cW;have b:=ih λz hz=>h z (.tail _ hz);rw [cP,iX,cC,bN,cV];exact cD λw=>bx (jt _ _ _) (AN aE (AN aI (AN (.mulL 100 (AN bg aA)) aA))) (AN (.num 100) (AN (.mulL 100 bg) (AN aE aI))) (aH a (aH b w)) rfl
    have:=h1 (L++p.own.toList) λy E=>by
     refine aB (List.mem_map.mp (H.mem_iff.mp E)) λs D A=> ?_;subst A;have sg:=P.seg s D;have l1:=kL sg.aG;have l2:=sg.EU;have l3:=sg.len;exact zt (zt (zt l1 (ze l2)) l3) (zr 60)
    exact cD λw=>bx (jt _ _ _) (AN (.mulL 100 aE) (AN (.mulL 100 aI) (AN bg (AN (.num 700) aA)))) (AN (.mulL 100 aI) (AN (.mulL 100 (.num 7)) (AN (.mulL 100 aE) bg))) (aH (fJ 100 (ze bW)) (aH (fJ 100 pl) (aH this w))) rfl
   refine zi _ c _ _ _ Q2 (k2.keep _ _ (λz=>z.elim hu.1 hu.2) (ak Y I)) (λy E=>hr y (.tail _ E)) N (by rw [cC];exact bK λw=>bx (jt _ _ _) (AN (AN (AN aE (.mulL 1000 (AN aI aA))) aA) (AN bg (.num 700000))) (AN (.num 700000) (AN (.num 700) (AN (AN aE bg) (.mulL 1000 aI)))) (aH G (aH b3 w)) rfl) λc' q n j e a9 Q3 k3=>U c' q n j e (a9.trans ?_) Q3 (((bG.pre Y).trans k2).trans k3);rw [cP,iX,<-fW];exact(J.append_left rows).append_right _
end
def C0{a:Type}(f:a->Bool):∀l:List a,iM (l.map λx=>V.bool (f x))=some (l.map f):=by
 intro zl
 induction zl with
 |nil=>
  exact rfl
 |cons x l b=>
  simp [uW,b]
structure Q_ (ν:Nat->Int) (lo hi:Nat) (S:St) (cls ML func PL body:T) (mem brows:List T) (pis:List PI):Prop where
 hh:hi<=S.length
 c:EV ν lo hi S cls ML mem
 q:Ctor lo hi ν S mem (pis.map (·.t))
 fld:∀n ∈ mem,n.kind=62->1<n.ai.aZ.length
 rf:Rep lo hi ν S func
 f1:func.ai.aZ[1]? =some (.ref PL.a)
 rp:Rep lo hi ν S PL
 vp:PL.ai.aZ=br (pis.map (·.t))
 f3:func.ai.aZ[3]? =some (.ref body.a)
 rb:Rep lo hi ν S body
 gb:body.aG=true
 zb:body.ids.length<400000
 lb:body.gM.length<=100
 vb:body.ai.aZ=br brows
 hb:∀t ∈ brows,Rep lo hi ν S t/\t.aG=true
 hP:∀p ∈ pis,E0 ν lo hi S p
 few:pis.length<=10
abbrev lO(ν:Nat->Int)(body:T):List T:=body.gM.filter λn=>met ν (ν n.a) body.dir
abbrev C1(mem a:List T):Bool:=mem.any D4||decide (0<(jJ mem a).length)
abbrev nD(ν:Nat->Int)(func body:T)(mem a brows:List T):List (Int×Int):=
 if(lO ν body).isEmpty=true then [(2377,func.at_)]else if(C1 mem a&& !((lO ν body).any λn=>brows.any (nZ ν n.a)))=true then [(2376,func.at_)]else []
abbrev nE(func body:T):List (Int×Int):=if 1<body.gM.length then [(12,func.at_)]else []
section
variable{d:Nat}{S st:St}{K:KV}{ν:Nat->Int}{lo hi n0 x g o rl nl:Nat}{syms:List (Nat×T)}{cls ML func PL body:T}{mem brows:List T}{pis:List PI}{rows nts:List (Int×Int)}{C:aR}{m:Loc}
def IJ{st:St}{u:Nat}{l:List V}{KB:Bool->St->Prop}(h:st[u]? =some (.list l))(a:KB (!l.isEmpty) st):tr KB (.ref u) st:=by
 simp only [tr,bY,h];exact a
def Mx{e:IE}{bs:List Bool}(c:∀b:KV,(∀a u,st <+: a->a[u]? =some (.list (bs.map V.bool))->b (.ref u) a)->vE C e m st b)(h:∀a,st <+: a->K (.bool (bs.any id)) a):vE C (.yD e) m st K:=by
 refine c _ λa u p e=> ?_;have:=C0 id bs;simp only [id]at this;rw [show List.map id bs=bs from List.map_id bs]at this;simp only [e,this];exact h a p
def IK{u:Nat}{N v5 U v7 v8:Option V}(J:Q_ ν lo hi S cls ML func PL body mem brows pis)(Q:nA S ν n0 x g o rl nl syms cls rows nts st)(hu:st[u]? =some (.list (br (lO ν body))))(v:∀r ∈ rows,r.1=2336)(hl:rows.length<800000)
  (h:∀a,nA S ν n0 x g o rl nl syms cls (rows++nD ν func body mem (pis.map (·.t)) brows) nts a->bG (Mt rl nl) st a->K .none a):
  vB (aq (d+5)) IM [some (.ref x),some (.ref cls.a),some (.ref func.a),N,some (.ref u),v5,U,v7,v8] st (oM K):=by
 have G:=Q.cx.obj;dsimp only [IM,ah];refine aV (lO ν body).isEmpty (λM h'=>by
  dsimp only [uY];refine aj rfl _ ?_;refine IJ hu ?_;have:(!(!(br (lO ν body)).isEmpty))=(lO ν body).isEmpty:=by rw [Bool.not_not];cases lO ν body<;>rfl
  rw [this];exact h') ?_
 cases hD:(lO ν body).isEmpty
 .rw [if_neg (by decide),au,aa,ah];have j:∀a,nA S ν n0 x g o rl nl syms cls (rows++nD ν func body mem (pis.map (·.t)) brows) nts a->bG (Mt rl nl) st a->vB (aq (d+5)) (.e (.i (.dh (.d (.p_ true (.x 0 58)) .stuck)) (.e (.ex (.kN (.l 0) 113 (.d (.g 21) (.l 2))))))) [some (.ref x),some (.ref cls.a),some (.ref func.a),N,some (.ref u),v5,U,v7,v8] a (oM K):=λa Q' k'=>by
   refine cN Q'.cx.obj λfs b tb v h2 h3 h4 h5 h6 h7 h8 h9 zz=> ?_;refine aV false (λM h'=>qk (p:=false) (q:=false) (λK h=>nS (o:=none) (λM h'=>aK (aj rfl) v h6 h') (by simpa using h)) (λh=>by cases h) h') ?_;exact h a Q' k'
  dsimp only [j6];have f:nD ν func body mem (pis.map (·.t)) brows=if(C1 mem (pis.map (·.t))&& !((lO ν body).any λn=>brows.any (nZ ν n.a)))=true then [(2376,func.at_)]else []:=by
   dsimp only [nD];rw [hD,if_neg (by decide)]
  dsimp only [sq,nP,cJ,aW];refine aj rfl _ ?_;refine Mq (J.c.pre Q.pre) (J.q.pre Q.pre) J.fld λs1 l=> ?_;have Q1:=Q.more l;cases hI:(mem.any D4||decide (0<(jJ mem (pis.map (·.t))).length))
  .dsimp only [bY];rw [bz];dsimp only;refine j s1 ?_ (bG.pre l);rw [f,show C1 mem (pis.map (·.t))=false from hI,Ab,if_neg (by decide),fK];exact Q1
  .dsimp only [bY];refine Mx (bs:=(lO ν body).map λn=>brows.any (nZ ν n.a)) (λM h'=> ?_) λs2 E=> ?_
   .dsimp only [ig,h_];refine aj rfl _ ?_;have A:=ak l hu;simp only [A];have lD:(lO ν body).length<=100:=iA (yq _ _) J.lb;refine dQ (λn:T=>V.ref n.a) (λn=>some (.bool (brows.any (nZ ν n.a)))) (lO ν body) (Src.of A) (zt (za lD 1) (zr 899899)) (λn hn D p K h=> ?_) (λn hn w hw D p K h=> ?_) λL p e=> ?_
    .dsimp only [nX];exact h D (bS _)
    .cases hw;have y:=Q1.pre.trans p;have rn:=(kJ J.rb n (rP body n (List.mem_filter.mp hn).1)).pre y;refine eW rfl (aj rfl) (J.rf.pre y) J.f3 (bI rfl) ?_;refine aj rfl _ ?_;exact Ms (J.rb.pre y) J.vb (λt Y=>⟨(J.hb t Y).1.pre y,(J.hb t Y).2⟩) rn.gR h
    .refine h' L _ p ?_;rw [e];simp [List.filterMap_eq_map]
   .dsimp only [bz,bz];have z:=Q1.more E;have ea:((lO ν body).map λn=>brows.any (nZ ν n.a)).any id=(lO ν body).any λn=>brows.any (nZ ν n.a):=by rw [List.any_map];rfl
    rw [ea];rw [show C1 mem (pis.map (·.t))=true from hI,uA]at f;cases hA:(lO ν body).any λn=>brows.any (nZ ν n.a)
    .rw [hA]at f;simp only [Bool.not_false];rw [if_pos (by decide)]at f;refine cN z.cx.obj λfs b tb g1 g2 g3 g4 g5 g6 g7 g8 g9 zz=> ?_;dsimp only [ah,gy];refine jn (aj rfl) g1 g8 lN (by decide) ?_;refine s_ z ((J.rf.pre z.pre).attr) (λI=>by have:=v _ I;simp at this) (zt hl (zr 100000)) λc H k3=> ?_;exact j c (by rw [f];exact H) ((bG.pre (l.trans E)).trans k3)
    .rw [hA]at f;rw [if_neg (by decide)]at f;exact j s2 (by rw [f,fK];exact z) (bG.pre (l.trans E))
 .rw [if_pos rfl,ah,gy];refine cN G λfs b tb g1 g2 g3 g4 g5 g6 g7 g8 g9 zz=> ?_;refine jn (aj rfl) g1 g8 lN (by decide) ?_;refine s_ Q ((J.rf.pre Q.pre).attr) (λI=>by have:=v _ I;simp at this) (zt hl (zr 100000)) λc H k3=> ?_;refine h c ?_ k3;have f:nD ν func body mem (pis.map (·.t)) brows=[(2377,func.at_)]:=by unfold nD;rw [hD,if_pos rfl]
  rw [f];exact H
def E3(J:Q_ ν lo hi S cls ML func PL body mem brows pis)(Q:nA S ν n0 x g o rl nl syms cls [] [] st)(b1:((pis.map n_).flatten).Nodup)
  (h:∀k rows,nA S ν n0 x g o rl nl syms cls rows (nE func body) k->rows.Perm ((pis.map n_).flatten++nD ν func body mem (pis.map (·.t)) brows)->bG (Mt rl nl) st k->K .none k):aq (d+6) 37 [.ref x,.ref cls.a,.ref func.a] st K:=by
 refine call_in My [some (.ref x),some (.ref cls.a),some (.ref func.a),none,none,none,none,none,none] ?_ (by decide) rfl rfl rfl;refine aS (bD (J.rp.pre Q.pre)) λw q hq e1 e2=> ?_;rw [J.vp]at e2;have bd:=Q.bd;have hh:=J.hh;have Sl:=Q.pre.length_le;rw [My,ah,iu,h_];refine aK (λK' h'=>eW rfl (aj rfl) (J.rf.pre Q.pre) J.f1 (bI rfl) h') e1 rfl ?_;simp only [e2];refine E2 ⟨(zl (zt (zt (zt hq.2 hh) bd.1) bd.2.1)),(zl (zt (zt (zt hq.2 hh) bd.1) bd.2.2.1))⟩ J.hh pis [] st _ _ _ Q e2 J.hP (by simpa using b1) (by have:=J.few;simp;exact bK λf=>bx (CC _) (AN (.mulL 1000 aE) (.num 700000)) (AN (.mulL 1000 (.num 10)) (.mulL 1000 aE)) (aH (fJ 1000 this) f) rfl) λs1 v3 v5 v6 rows hp G k1=> ?_;rw [dw]at hp;have a4:∀r ∈ rows,r.1=2336:=λr D=>by
  have:=hp.mem_iff.mp D;refine aB (List.mem_flatten.mp this) λl hl D=> ?_;refine aB (List.mem_map.mp hl) λp f t=> ?_;subst t;refine aB (List.mem_flatten.mp D) λl2 a5 D=> ?_;refine aB (List.mem_map.mp a5) λs f t=> ?_;subst t;refine aB (List.mem_map.mp D) λn f t=> ?_;subst t;rfl
 have lr:rows.length<=7000:=by
  rw [hp.length_eq];have one:∀p ∈ pis,(n_ p).length<=280:=λp a6=>by
   have P:=J.hP p a6;have:∀l:List (T×List Mk),(∀s ∈ l,kg ν lo hi S s)->((l.map λs=>pD s.1).flatten).length<=40*l.length:=λl=>by
    induction l with
    |nil=>intro _;exact(gP _)
    |cons s l ih=>
     intro E;have sg:=E s (.head _);have l1:=kL sg.aG;have l2:=sg.EU;have l3:=sg.len;have:=ih λz Y=>E z (.tail _ Y);rw [cP,iX,cC,bN,cV];exact cD λf=>bx (CA _ _ _ _ _) (AN aE (AN aI (AN bg (AN dm (AN (.mulL 40 (AN j4 aA)) aA))))) (AN aI (AN bg (AN (.num 40) (AN (.mulL 40 j4) (AN aE dm))))) (aH l1 (aH (ze l2) (aH l3 (aH this f)))) rfl
   have h1:=this p.aM P.seg;have h2:=P.len;show((p.aM.map λs=>pD s.1).flatten).length<=280;exact cD λf=>bx (fL _ _) (AN aE (AN (.mulL 40 aI) (AN (.num 280) aA))) (AN (.mulL 40 aI) (AN (.mulL 40 (.num 7)) aE)) (aH h1 (aH (fJ 40 h2) f)) rfl
  have:∀l:List PI,(∀p ∈ l,(n_ p).length<=280)->((l.map n_).flatten).length<=280*l.length:=λl=>by
   induction l with
   |nil=>intro _;exact(bP _)
   |cons p l ih=>
    intro E;have a:=E p (.head _);have b:=ih λz Y=>E z (.tail _ Y);rw [cP,iX,cC,cV];exact cD λf=>bx (jt _ _ _) (AN aE (AN aI (AN (.mulL 280 (AN bg aA)) aA))) (AN (.num 280) (AN (.mulL 280 bg) (AN aE aI))) (aH a (aH b f)) rfl
  have j1:=this pis one;have j2:=J.few;exact cD λf=>bx (fL _ _) (AN aE (AN (.mulL 280 aI) (AN (.num 7000) aA))) (AN (.mulL 280 aI) (AN (.mulL 280 (.num 10)) aE)) (aH j1 (aH (fJ 280 j2) f)) rfl
 rw [aa,ah,cL,cJ,aW];refine eW rfl (aj rfl) (J.rf.pre G.pre) J.f3 (bI rfl) ?_;rw [cy];have a8:=G.pre.length_le;refine wh (J.rb.pre G.pre) J.gb (zt hh a8) J.zb λs2 u U hu a2=> ?_;have M:=G.more U;have c9:=G.RZ;simp only [cB,cA];have y:∀A,nA S ν n0 x g o rl nl syms cls rows (nE func body) A->bG (Mt rl nl) st A->A[u]? =some (.list (br body.gM))->vB (aq (d+5)) (.c (.a 4 (.comp (.l 7) 7 (.seq (.l 4)) (.e (.v 15 (.S 2 3 3) (.x 7 6))))) IM) [some (.ref x),some (.ref cls.a),some (.ref func.a),v3,some (.ref u),v5,v6,none,none] A (oM K):=λA H k3 a3=>by
  rw [ah,cL,ig,h_];refine aj rfl _ ?_;simp only [a3];have lB:=J.lb;refine dQ (λn:T=>V.ref n.a) (λn=>if met ν (ν n.a) body.dir=true then some (.ref n.a)else none) body.gM (Src.of a3) (zt (za lB 1) (zr 899899)) (λn v N p K h=> ?_) (λn v w I N p K h=> ?_) λb6 p e=> ?_
  .have L:=H.pre.trans p;have rn:=(kJ J.rb n (rP body n v)).pre L;refine eS rn.gR λk' w' q' f' t' en=> ?_;have lc:=L.length_le;rw [jd,cJ,aW];refine eW rfl (aj rfl) (J.rf.pre L) J.f3 (bI rfl) ?_;rw [aW];refine aK (aj rfl) en rfl ?_;rw [cy];refine Em (J.rb.pre L) (zt hh lc) J.zb λk p'=> ?_;rw [bz];have:=h k p';rw [iD]at this;exact this
  .cases hc:met ν (ν n.a) body.dir
   .rw [hc]at I;cases I
   .rw [hc,if_pos rfl]at I;cases I;exact aj rfl _ (h N (bS _))
  .simp only [cB,cA];rw [aa];rw [eF]at e;exact IK J (H.more p) e a4 (zt (za lr 1) (zr 792999)) λk Q' k'=>h k _ Q' (hp.append_right _) ((k3.trans (bG.pre p)).trans k')
 rw [aa,ah];refine aV (decide (1<body.gM.length)) (λK' h'=>by
  dsimp only [d_,jh];refine aj rfl _ ?_;simp only [a2,bV,cv,b_];have:decide (((br body.gM).length:Int)>1)=decide (1<body.gM.length):=by
   simp only [bN]
   congr 1
   exact PD
  rw [this];exact h') ?_
 by_cases v:1<body.gM.length
 .rw [if_pos (by simp [v]),ah,gy];refine cN M.cx.obj λfs b tb g1 g2 g3 g4 g5 g6 g7 g8 g9 f=> ?_;refine jn (aj rfl) g1 g9 yE (by decide) ?_;dsimp only [vL,vE,BD,cF,bM];refine IG M ((J.rf.pre M.pre).attr) (by simp) λc H k3=> ?_;dsimp only [aa,au,aa];refine y c ?_ ((k1.trans (bG.pre U)).trans k3) (k3.keep _ _ (λz=>by rcases z with z |z<;>lia) a2);have:nE func body=[]++ [(12,func.at_)]:=by unfold nE;rw [if_pos v];rfl
  rw [this];exact H
 .rw [if_neg (by simp [v]),au,aa];refine y s2 ?_ (k1.trans (bG.pre U)) a2;have:nE func body=[]:=by unfold nE;rw [if_neg v]
  rw [this];exact M
end
def IP(l:List (Int×Int)):rowsOf (l.map dS)=some l:=by
 have e:(l.map dS).map yF=l:=by rw [gA];exact List.map_id l
 exact(if_pos (show l.map dS=((l.map dS).map yF).map dS by rw [e])).trans (congrArg some e)
def oh{l:List (Int×Int)}(h:l.length<=63):pq (l.map dS)=some ((l.mergeSort dj).map dS):=by
 rw [pq,if_neg (by simp;exact h)]
 cases l with
 |nil=>simp [gK]
 |cons r l=>
  have:gK ((r::l).map dS)=none:=rfl;rw [this,IP]
def Aj{l l':List (Int×Int)}(p:l'.Perm l):l'.mergeSort dj=l.mergeSort dj:=
 ((Ae l' _).trans (p.trans (Ae l _).symm)).eq_of_pairwise (λa b e e c f=>tn a b c f) (CO jS lP l') (CO jS lP l)
def tu{f:Int×Int->V}(a:∀r,vEq 4 (f r) (f r)=some true):∀l:List (Int×Int),kq (vEq 4) (l.map f) (l.map f)=some true:=by
 intro zl
 induction zl with
 |nil=>
  exact rfl
 |cons r l b=>
  simp [wM,Ak,Ag,a,b]
def IQ(r:Int×Int):vEq 4 (dS r) (dS r)=some true:=by
 simp only [dS,EO,Lh,wM,Ak,Ag,beq_self_eq_true,Bool.and_self]
def E4(r:Int×Int):vEq 4 (qT r) (qT r)=some true:=by
 simp only [qT,EO,Lh,wM,Ak,Ag,beq_self_eq_true,Bool.and_self]
noncomputable abbrev rz(m:Mk):Bool:=m.sort==1&&m.w1
abbrev wW(early:List Mk):List (Int×Int):=(early.filter rz).map λm=>(2336,m.at_)
abbrev E5(t:Int)(held:List Mk)(a:Bool):List (Int×Int):=
 if((held.filter rz).filter (·.w0)).isEmpty=true then [(2377,t)]else if(a&&((held.filter rz).filter (·.row)).isEmpty)=true then [(2376,t)]else []
section
variable{d:Nat}{S st:St}{K:KV}{ν:Nat->Int}{lo hi n0 x g o rl nl:Nat}{syms:List (Nat×T)}{cls ML func PL body:T}{mem brows:List T}{pis:List PI}{rows nts:List (Int×Int)}{C:aR}{m:Loc}
def Mz{a:Nat}{r:Int×Int}(b:st[a]? =some (yz r))(h:K (dS r) st):aq (d+1) 17 [.ref a] st K:=by
 refine call_in PE [some (.ref a)] ?_ (by decide) rfl rfl rfl;refine aK (aj rfl) b rfl ?_;refine aK (aj rfl) b rfl ?_;refine aK (aj rfl) b rfl ?_;exact h
def BE{x j u:Nat}{ms:List Mk}{cond:IL}{p:Mk->Bool}(v:x<m.length)(y:m[j]? =some (some (.ref u)))(k:st[u]? =some (.list (ms.map λm=> .ref m.h)))(t:ms.length<=60)
  (z:∀mk ∈ ms,∀a,st <+: a->∀K:KV,K (.bool (p mk)) a->iB C cond (m.set x (some (.ref mk.h))) a K)
  (h:∀b n,st <+: b->b[n]? =some (.list ((ms.filter p).map λm=> .ref m.h))->K (.ref n) b):vE C (.comp (.l x) x (.seq (.l j)) cond) m st K:=by
 dsimp only [ig,h_];refine aj y _ ?_;simp only [k];refine dQ (λmk:Mk=>V.ref mk.h) (λmk=>if p mk=true then some (V.ref mk.h)else none) ms (Src.of k) (zt (za t 1) (zr 899939)) (λmk l a q K h=> ?_) (λmk l w c a q K h=> ?_) λf q e=> ?_
 .refine z mk l a q _ ?_;have:=h a (bS _);rw [iD]at this;exact this
 .cases hp:p mk
  .rw [hp]at c;cases c
  .rw [hp,if_pos rfl]at c;cases c;exact aj (vN v) _ (h a (bS _))
 .refine h f _ q ?_;rw [e,eF]
def IT{e:IE}{n:Nat}(f:∀c:KV,(∀b u l,st <+: b->b[u]? =some (.list l)->l.length=n->c (.ref u) b)->vE C e m st c)(h:∀b,st <+: b->K (.bool (decide (n=0))) b):vE C (.eq (.len e) (.n 0)) m st K:=by
 refine f _ λb u l p a j=> ?_;simp only [a,bV,cv,b_];have:((l.length:Int)==0)=decide (n=0):=by
  rw [j];by_cases z:n=0
  .subst z;rfl
  .have: ¬((n:Int)=0):=λe=>z (Int.ofNat.inj e);simp [z]
 rw [this];exact h b p
def C2{a:Type}(l:List a):decide (l.length=0)=l.isEmpty:=by cases l<;>exact rfl
def pF{A D:Nat}{a:List (Int×Int)}{f a2 I U J E:Option V}(Q:nA S ν n0 x g o rl nl syms cls rows nts st)(h6:st[A]? =some (.list (a.map dS)))(Y:st[D]? =some (.list (nts.map qT)))(v:rows.Perm a)(y:a.length<=63)(h:∀j,st <+: j->K (.bool true) j):
  vB (aq (d+1)) E6 [some (.ref x),f,a2,I,U,J,some (.ref A),E,some (.ref D),none,none,none,none,none,none] st (oM K):=by
 refine iY Q.cx.obj λfs b tb t h2 h3 G H zz=> ?_;refine iN Q.dg λfg g1 g2 g3 g4=> ?_;refine eG Q.nt λfo L o2 o3=> ?_;refine eG Q.rs λu e0 e1 e2=> ?_;have ln:=v.length_eq;have ld:=congrArg List.length e0;rw [bN]at ld;dsimp only [E6,ah,cL,ig,h_];refine aK (λK' h'=>aK (aj rfl) t G h') g1 g2 ?_;simp only [e1];refine dQ (λd:Nat×(Int×Int)=>V.ref d.1) (λd=>some (dS d.2)) u (Src.of e1) (zt (zt (zt (za (zf ld) 1) (za (ze ln) 1)) (za y 1)) (zr 899936)) (λdd n e p K h=> ?_) (λdd n w M e p K h=> ?_) λk N f=> ?_
 .dsimp only [nX];exact h e (bS _)
 .cases M;have z:=ak p (e2 dd n);refine jn (g':=17) (aj rfl) z rfl Al (by decide) ?_;dsimp only [cy];exact Mz z (h e (bS _))
 .simp only [cB,cA];have e3:List.filterMap (λd:Nat×(Int×Int)=>some (dS d.2)) u=rows.map dS:=by rw [List.filterMap_eq_map',e0,gA];rfl
  rw [e3]at f;rw [aa,ah,fZ,sq,nP,d_,uT];refine aj rfl _ ?_;simp only [f,oh (show rows.length<=63 by lia),Aj v];rw [uT];refine aj rfl _ ?_;have q:st <+: k++ [O.list ((a.mergeSort dj).map dS)]:=cE N;simp only [ak q h6,oh y];have c:st <+: k++ [O.list ((a.mergeSort dj).map dS)]++ [O.list ((a.mergeSort dj).map dS)]:=cE q;simp only [O5,two,fR,D7,aD,bQ (l:=[O.list ((a.mergeSort dj).map dS)]) (aD (st:=k) (o:=O.list ((a.mergeSort dj).map dS)))];rw [tu IQ];dsimp only [bY];dsimp only [jd,d_];refine aK (λK' h'=>aK (aj rfl) (ak c t) H h') (ak c L) o2 ?_;refine aj rfl _ ?_;simp only [O5,two,fR,D7,ak c Q.ns,ak c Y,tu E4];dsimp only [ao,ay];exact h _ c
end
section
variable{d:Nat}{S st:St}{K:KV}{ν:Nat->Int}{lo hi n0 x g o rl nl:Nat}{syms:List (Nat×T)}{cls ML func PL body:T}{mem brows:List T}{pis:List PI}{rows nts:List (Int×Int)}{C:aR}{m:Loc}
def Li{j:Nat}{mk:Mk}{K:KV}(a:m[j]? =some (some (.ref mk.h)))(hh:st[mk.h]? =some (vK mk))(h:K (.bool (rz mk)) st):iB C (.e (.dh (.d (.eq (.sub (.l j) (.n 1)) (.g 26)) (.sub (.l j) (.n 3))))) m st K:=by
 refine fu (λK h=> ?_) (λK h=>gS rfl (aj a) hh rfl (bI rfl) h) h;refine gS rfl (aj a) hh rfl (bI rfl) ?_;exact h
def uZ{p:Nat}{b:List (Int×Int)}{func:T}{n:Int}{t u v c y l e:Option V}{r:IB}{j:Loc}{KS:KS}(A:∃k w q f nd,st[func.a]? =some (gF k w q f func.at_ nd))(G:st[p]? =some (.list (b.map dS)))(D:b.length<=900)
  (h:∀a z,st <+: a->a[z]? =some (.list ((b++ [(n,func.at_)]).map dS))->vB C r (t::u::some (.ref func.a)::v::c::y::some (.ref z)::l::e::j) a KS):
  vB C (.c (.a 6 (.bin .add (.l 6) (.list (.e (.tup (.f (.n n) (.x 2 5) (.tup .z))))))) r) (t::u::some (.ref func.a)::v::c::y::some (.ref p)::l::e::j) st KS:=by
 refine eS A λk w q f nd en=> ?_;dsimp only [ah,cL,j8];refine aj rfl _ ?_;refine aK (aj rfl) en rfl ?_;refine⟨by simp only [cV,cY,big];exact bI rfl,?_⟩;simp only [E7,two,fR,bQ G,aD];refine⟨by simp only [bN,cV,cY,big];exact cD λE=>bx (CC _) (AN aE (AN (.num 1000000) aA)) (AN (.num 900) (AN aE (AN oW aA))) (aH D E) rfl,?_⟩;refine h _ _ (cE (eE _ _)) ?_;rw [aD];simp
def E8{M I Y:Nat}{l6:List (Int×Int)}{c:List Mk}{a:Bool}{func:T}{a1 a3 a4:Option V}(Q:nA S ν n0 x g o rl nl syms cls rows nts st)(hf:∃k w q f nd,st[func.a]? =some (gF k w q f func.at_ nd))(U:st[M]? =some (.list (l6.map dS)))(a0:st[I]? =some (.list (c.map λm=> .ref m.h)))(b2:c.length<=60)(a2:∀m ∈ c,st[m.h]? =some (vK m))(L:st[Y]? =some (.list (nts.map qT)))(G:l6.length<=62)
  (u:rows.Perm (l6++if(c.filter (·.w0)).isEmpty=true then [(2377,func.at_)]else if(a&&(c.filter (·.row)).isEmpty)=true then [(2376,func.at_)]else [])) (h:∀b,st <+: b->K (.bool true) b):
  vB (aq (d+1)) E9 [some (.ref x),a1,some (.ref func.a),a3,a4,some (.bool a),some (.ref M),some (.ref I),some (.ref Y),none,none,none,none,none,none] st (oM K):=by
 have z:∀{j E:Nat} {p:Mk->Bool} {cond:IL} {st:St} {K':KV},j=7->E<15->8<E->st[I]? =some (.list (c.map λm=> .ref m.h))->
   (∀mk ∈ c,∀D,st <+: D->∀K:KV,K (.bool (p mk)) D->iB (aq (d+1)) cond (List.set [some (.ref x),a1,some (.ref func.a),a3,a4,some (.bool a),some (.ref M),some (.ref I),some (.ref Y),none,none,none,none,none,none] E (some (.ref mk.h))) D K)->
   (∀b,st <+: b->K' (.bool (c.filter p).isEmpty) b)->vE (aq (d+1)) (.eq (.len (.comp (.l E) E (.seq (.l j)) cond)) (.n 0)) [some (.ref x),a1,some (.ref func.a),a3,a4,some (.bool a),some (.ref M),some (.ref I),some (.ref Y),none,none,none,none,none,none] st K':=by
  intro j E p cond st K' hj hx c3 hu hc J;subst hj;refine IT (n:=(c.filter p).length) (λK2 h2=>BE (by simpa using hx) rfl hu b2 hc λb u' q e=>h2 b u' _ q e (by simp)) λb q=> ?_;rw [C2];exact J b q
 have e0:∀{l:List (Int×Int)},(l++([]:List (Int×Int)))=l:=(fK _);refine z rfl (bI rfl) (bI rfl) a0 (λmk J D q K h=>by rw [jd];exact gS rfl (aj rfl) (ak q (a2 mk J)) rfl (bI rfl) h) λs1 t=> ?_;dsimp only [bz];have N:=Q.more t;have a5:=hf.imp λk=>sX λw=>sX λq=>sX λf=>sX λnd e=>ak t e;cases hw:(c.filter (·.w0)).isEmpty
 .rw [hw,if_neg (by decide)]at u;dsimp only;dsimp only [ah,j6];dsimp only [sq,nP];refine aj rfl _ ?_;cases a
  .rw [Ab,if_neg (by decide),fK]at u;rw [bz];dsimp only;exact pF N (ak t U) (ak t L) u (dP G) λH y=>h H (t.trans y)
  .rw [uA]at u;refine z rfl (bI rfl) (bI rfl) (ak t a0) (λmk J D q K h=>by rw [jd];exact gS rfl (aj rfl) (ak (t.trans q) (a2 mk J)) rfl (bI rfl) h) λs2 A=> ?_;dsimp only [bz];have v:=t.trans A;cases hr:(c.filter (·.row)).isEmpty
   .rw [hr,if_neg (by decide),fK]at u;dsimp only;exact pF (N.more A) (ak v U) (ak v L) u (dP G) λH y=>h H (v.trans y)
   .rw [hr,if_pos rfl]at u;dsimp only;refine uZ (a5.imp λk=>sX λw=>sX λq=>sX λf=>sX λnd e=>ak A e) (ak v U) (zt G (zr 838)) λH u' y e3=> ?_;exact pF ((N.more A).more y) e3 (ak (v.trans y) L) u (by simp;exact G) λs4 p4=>h s4 ((v.trans y).trans p4)
 .rw [hw,if_pos rfl]at u;dsimp only;refine uZ a5 (ak t U) (zt G (zr 838)) λs2 u' A e2=> ?_;exact pF (N.more A) e2 (ak (t.trans A) L) u (by simp;exact G) λH y=>h H ((t.trans A).trans y)
def IU{e j:Nat}{early held:List Mk}{a:Bool}(J:Q_ ν lo hi S cls ML func PL body mem brows pis)(Q:nA S ν n0 x g o rl nl syms cls [] [] st)(a9:((pis.map n_).flatten).Nodup)
  (he:st[e]? =some (.list (early.map λm=> .ref m.h))) (hh:st[j]? =some (.list (held.map λm=> .ref m.h))) (D:e≠rl/\e≠nl) (G:j≠rl/\j≠nl) (y:∀m ∈ early,sW ν S m) (H:∀m ∈ held,sW ν S m) (le:early.length<=900) (lh:held.length<=60) (lE:(wW early).length<=60)
  (hA:((pis.map n_).flatten++nD ν func body mem (pis.map (·.t)) brows).Perm (wW early++E5 func.at_ held a)) (u:nE func body=if 1<(held.filter rz).length then [(12,func.at_)]else [])
  (h:∀A,S <+: A->K (.bool true) A):aq (d+7) 58 [.ref x,.ref cls.a,.ref func.a,.ref e,.ref j,.bool a] st K:=by
 refine call_in MA [some (.ref x),some (.ref cls.a),some (.ref func.a),some (.ref e),some (.ref j),some (.bool a),none,none,none,none,none,none,none,none,none] ?_ (by decide) rfl rfl rfl;rw [MA,ah,gy];dsimp only [vE,vL,cF,bM];refine E3 J Q a9 λs1 rows L hp k1=> ?_;have E:=k1.keep _ _ (λz=>z.elim D.1 D.2) he;have a7:=k1.keep _ _ (λz=>z.elim G.1 G.2) hh;rw [aa,ah,cL,uT,ig,h_];refine aj rfl _ ?_;simp only [E];refine dQ (λmk:Mk=>V.ref mk.h) (λmk=>if rz mk=true then some (dS (2336,mk.at_))else none) early (Src.of E) (zt (za le 1) (zr 899099)) (λmk b c q K h=> ?_) (λmk b w p c q K h=> ?_) λs2 p2 a2=> ?_
 .refine Li rfl (((y mk b).pre (L.pre.trans q)).hit) ?_;have:=h c (bS _);rw [iD]at this;exact this
 .have M:=(y mk b).pre (L.pre.trans q);refine pA M.node λk w' q' f en=> ?_;cases hc:rz mk
  .rw [hc]at p;cases p
  .rw [hc,if_pos rfl]at p;cases p;refine aK (λK' h'=>gS rfl (aj rfl) M.hit rfl (bI rfl) h') en rfl ?_;exact h c (bS _)
 .have Q2:=L.more p2;have e6:List.filterMap (λmk=>if rz mk=true then some (dS (2336,mk.at_))else none) early=(wW early).map dS:=by rw [eF,gA];rfl
  rw [e6]at a2;simp only [a2,oh (zt lE (zr 3)),cB,cA];have U:s2 <+: s2++ [O.list (((wW early).mergeSort dj).map dS)]:=eE _ _;have Q3:=Q2.more U;rw [aa,ah,cL];refine BE (zb rfl) rfl (ak (p2.trans U) a7) lh (λmk b c q K h=>Li rfl (((H mk b).pre (Q3.pre.trans q)).hit) h) λs4 u7 Y a4=> ?_;have Q4:=Q3.more Y;have lf:(held.filter rz).length<=60:=iA (yq _ _) lh;have l:∀v N,s4 <+: v->v[N]? =some (.list ((nE func body).map qT))->vB (aq (d+6)) E9 [some (.ref x),some (.ref cls.a),some (.ref func.a),some (.ref e),some (.ref j),some (.bool a),some (.ref s2.length),some (.ref u7),some (.ref N),none,none,none,none,none,none] v (oM K):=λv N I a5=>by
   have n:=Q4.more I;refine E8 n ((J.rf.pre n.pre).attr) (ak (Y.trans I) aD) (ak I a4) lf (λmk b=>((H mk (List.mem_filter.mp b).1).pre n.pre).hit) a5 (by rw [List.length_mergeSort];exact zt lE (zr 2)) ?_ λs6 p6=>h s6 (n.pre.trans p6);exact(hp.trans hA).trans ((Ae _ _).symm.append_right _)
  refine rK (decide (1<(held.filter rz).length)) (λK' h'=> ?_) ?_
  .dsimp only [d_,jh];refine aj rfl _ ?_;simp only [a4,bV,cv,b_];have:decide ((((held.filter rz).map λm=>V.ref m.h).length:Int)>1)=decide (1<(held.filter rz).length):=by
    simp only [bN]
    congr 1
    exact PD
   rw [this];exact h'
  .by_cases t:1<(held.filter rz).length
   .rw [if_pos t]at u;rw [if_pos (by simp [t])];refine eS ((J.rf.pre Q4.pre).attr) λk w' q' f nd en=> ?_;dsimp only [fQ,aW,yh,aW,iU,BD,aW];refine aK (aj rfl) en rfl ?_;refine⟨by simp only [cV,cY,big];exact bI rfl,?_⟩;refine l _ _ (eE _ _) ?_;rw [aD,u];rfl
   .rw [if_neg t]at u;rw [if_neg (by simp [t])];dsimp only [vE,vL];refine⟨by simp only [cY,big];exact bI rfl,?_⟩;refine l _ _ (eE _ _) ?_;rw [aD,u];rfl
end
theorem lQ(f g:Nat)(v:V):∀c:List (Nat×V),(putL f v c).lookup g=if g=f then some v else c.lookup g
 | []=>by
  by_cases h:g=f
  .subst h;simp [putL]
  .have:(g==f)=false:=by simp [h]
   simp [putL,List.lookup,this,h]
 |(k,w)::r=>by
  dsimp only [Fd];by_cases b:k=f
  .rw [if_pos b];subst b;by_cases h:g=k
   .subst h;simp
   .have:(g==k)=false:=by simp [h]
    simp [List.lookup,this,h]
  .rw [if_neg b,List.lookup,List.lookup,lQ f g v r];by_cases h:g=k
   .subst h;simp [b]
   .have:(g==k)=false:=by simp [h]
    rw [this]
theorem u0(f:Nat)(v:V):∀b:List (Nat×V),(putL f v b).length<=b.length+1
 | []=>al
 |(k,w)::r=>by
  have:=u0 f v r;dsimp only [Fd];split<;>simp;exact this
def Fe(m:Loc):IE->Bool
 | .t _=>true
 | .neg _=>true
 | .l i=>(m[i]?.join).isSome
 | .dict [] .z=>true
 | .list .z=>true
 | .tup .z=>true
 | .new k .z=>(cT k).isNone||k==9||k==10
 |_=>false
def kR(k:Nat)(m:Loc)(b:List Nat):IB->Bool
 | .z=>true
 | .c (.qU (.l 0) f e) r=>Fe m e&&(!b.contains f&&((fj k f).isNone&&kR k m b r))
 |_=>false
noncomputable def An:IB->Nat
 | .z=>0
 | .c _ r=>An r+1
section
variable{d:Nat}{st cur:St}{K:KV}{KS:KS}{m:Loc}{a k:Nat}
def yJ{f k:Nat}{g:IB}(hi:Cu f=g)(e:g= .c (.xd 0 56) .z)(l:f<60)(p:iR f=1)(n:rW f [V.ref st.length]=[some (.ref st.length)])(o:f≠18)(j:fj k 56=none)(h:∀c,st <+: c->K .none c):aq (d+1) f [.ref st.length] (st++ [.inst k []]) K:=by
 subst hi;have b:fill f [V.ref st.length]=[V.ref st.length]:=by rw [fill,if_neg (λz=>o z.1)]
 refine⟨⟨l,by rw [b,p];rfl⟩,?_⟩;rw [b,n,e,ah,Aa,Ff,cy];refine⟨rfl,?_⟩;dsimp only [vE,bM];refine rQ (bQ aD) ?_;refine⟨⟨j,by simp⟩,?_⟩;exact h _ (fM (cE (eE _ _)) (bP _))
set_option tactic.hygienic true in
def Fg{e:IE}(h:Fe m e=true)(b:∀j v,cur <+: j->K v j):vE (aq (d+1)) e m cur K:=by
 cases e<;>first |exact ff h |skip
 .rename_i i
  cases hm:m[i]? with
  |none=>exact ff (by rw [<-h];show false=(m[i]?.join).isSome;rw [hm];rfl)
  |some o=>
   cases o with
   |none=>exact ff (by rw [<-h];show false=(m[i]?.join).isSome;rw [hm];rfl)
   |some v=>exact aj hm _ (b _ _ (bS _))
 .exact b _ _ (bS _)
 .exact b _ _ (bS _)
 .rename_i k g;cases g<;>first |exact ff h |skip
  dsimp only [sZ,cy]
  cases hi:cT k with
  |none=>exact⟨rfl,b _ _ (eE _ _)⟩
  |some f=>
   have h:(k==9||k==10)=true:=by
    have h:((cT k).isNone||k==9||k==10)=true:=h;rw [hi]at h;exact h
   refine a_ (Bool.or_eq_true_iff.mp h) (λh=> ?_) λh=> ?_
   .cases eq_of_beq h;cases hi;exact yJ rfl rfl (by decide) rfl rfl (by decide) rfl λc p=>⟨rfl,b _ _ p⟩
   .cases eq_of_beq h;cases hi;exact yJ rfl rfl (by decide) rfl rfl (by decide) rfl λc p=>⟨rfl,b _ _ p⟩
 .rename_i g;cases g<;>first |exact ff h |exact⟨gP _,b _ _ (eE _ _)⟩
 .rename_i g;cases g<;>first |exact ff h |exact b _ _ (bS _)
 .rename_i l g;cases l<;>first |exact ff h |skip
  cases g<;>first |exact ff h |exact⟨rfl,b _ _ (eE _ _)⟩
set_option tactic.hygienic true in
def Fi{b:List Nat}{s:IS}{r:IB}{P:IS->Prop}(h:kR k m b (.c s r)=true)(q:∀f e,Fe m e=true->b.contains f=false->fj k f=none->kR k m b r=true->P (.x 0 f e)):P s:=by
 cases s<;>first |exact ff h |skip
 rename_i o f e;cases o<;>first |exact ff h |skip
 rename_i i;cases i<;>first |exact ff h |skip
 exact kT h λj h=>kT h λc h=>kT h λl g=>q f e j (C6 _▸c) (Option.isNone_iff_eq_none.mp l) g
def qt{C:aR}{f:Nat}{e:IE}{r:IB}{c:List (Nat×V)}(R:V->St->Prop)(u:cur[a]? =some (.inst k c))(n:m[0]? =some (some (.ref a)))(q:fj k f=none)(j:c.length<500)(t:∀g:KV,(∀b v,cur <+: b->R v b->g v b)->vE C e m cur g)
  (h:∀b v,cur <+: b->R v b->vB C r m (b.set a (.inst k (putL f v c))) KS):vB C (.c (.x 0 f e) r) m cur KS:=by
 refine t _ λb v p l=> ?_;dsimp only [bq];simp only [n,ak p u];refine⟨⟨q,j⟩,?_⟩;exact h b v p l
theorem mL(t:List Nat)(w:m[0]? =some (some (.ref a))):∀(b:IB) (n:List (Nat×V)) (cur:St),kR k m t b=true->cur[a]? =some (.inst k n)->n.length+An b<400->
  (∀j l,bG (·=a) cur j->j[a]? =some (.inst k l)->(∀f ∈ t,l.lookup f=n.lookup f)->l.length<400->KS .next m j)->vB (aq (d+1)) b m cur KS
 | .z,n,cur,y,u,o,h=>by
  exact h cur n (bG.refl _) u (λq q=>rfl) (by simp [An]at o;exact o)
 | .c s r,n,cur,y,u,o,h=>by
  refine Fi (P:=λs=>vB (aq (d+1)) (.c s r) m cur KS) y λf e E A I D=> ?_;replace o:n.length+(An r+1)<400:=o;refine qt (λq q=>True) u w I (zt (zt (za (zr _) 1) o) (bI rfl)) (λL C=>Fg E λc v p=>C c v p trivial) λj v p q=> ?_;have H:=u0 f v n;refine mL t w r _ _ D (bh (ak p u)) (bK λq=>bx (jt _ _ _) (AN (AN (AN aE (AN aI aA)) aA) (AN bg (.num 400))) (AN (.num 400) (AN (AN aE aA) (AN bg aI))) (aH o (aH H q)) rfl) λc l g e J bW=>h c l (((bG.pre p).trans (bG.set (M:=λx=>x=a) rfl)).trans g) e (λx z=> ?_) bW;rw [J x z,lQ,if_neg];intro G;subst G;exact ff (A.symm.trans (List.contains_iff_mem.mpr z))
end
section
variable{d:Nat}{st cur:St}{K:KV}
def PJ{st:St}{x y z:O}:(st++ [x]++ [y]).set st.length z=st++ [z,y]:=by
 rw [fW,Bg _ _ (bP _),rX];rfl
def yK(h:K .none (st++ [.inst 4 [(27,.ref (st.length+1)),(26,.str 0)],.list []])):aq (d+1) 18 [.ref st.length] (st++ [.inst 4 []]) K:=by
 refine call_in MG [some (.ref st.length),some (.str 0)] ?_ (by decide) rfl rfl rfl;dsimp only [MG,ah,Aa,fQ,cy];refine⟨(gP _),?_⟩;simp only [bq,bM,bQ aD];refine⟨⟨rfl,by simp⟩,?_⟩;rw [aa,ah,Aa,PJ,cC];dsimp only [vE,cF,bM];have e:(st++ [O.inst 4 (putL 27 (V.ref (st.length+ [O.inst 4 []].length)) []),O.list []])[st.length]? =some (.inst 4 [(27,.ref (st.length+1))]):=by
  rw [Af (bP _),rX];rfl
 refine rQ e ?_;refine⟨⟨rfl,(zb rfl)⟩,?_⟩;rw [aa,au,qd,Bg _ _ (bP _),rX];exact h
def Fj(h:K .none (st++ [.inst 5 [(27,.ref (st.length+1))],.list []])):aq (d+1) 20 [.ref st.length] (st++ [.inst 5 []]) K:=by
 refine call_in MH [some (.ref st.length)] ?_ (by decide) rfl rfl rfl;dsimp only [MH,ah,Aa,fQ,cy];refine⟨(gP _),?_⟩;simp only [bq,bM,bQ aD];refine⟨⟨rfl,by simp⟩,?_⟩;refine rQ aa ?_;refine rQ au ?_;refine rQ PJ ?_;refine rQ cC ?_;refine rQ qd ?_;exact h
def R3{a:Nat}{k:Nat}{l:List (Nat×V)}{o:O}{st cur:St}(p:st <+: cur)(c:st.length<=a){b:Nat}{x:O}(hb:b≠a)(e:cur[b]? =some x):(cur.set a o)[b]? =some x:=aT (λz=>hb z.symm) e
def Fo{g:Nat}(h:∀cur f b,st.length<b->st <+: cur->cur[st.length]? =some (.inst 2 f)->f.lookup 15=some (.ref b)->cur[b]? =some (.list [.none])->K .none cur):aq (d+2) 7 [.ref st.length,.ref g] (st++ [.inst 2 []]) K:=by
 refine call_in S_ [some (.ref st.length),some (.ref g)] ?_ (by decide) rfl rfl rfl;refine qt (λv c=>∃b,v= .ref b/\st.length<b/\c[b]? =some (.list [.none])) aD rfl rfl (by simp) (λy q=> ?_) λcur v p ⟨b,e,j,es⟩=> ?_
 .dsimp only [fQ,aW,bV,cy];refine⟨(zb rfl),q _ _ (eE _ _) ⟨_,rfl,PK,aD⟩⟩
 .subst e;have u:=(eE _ _).trans p;refine mL [15] rfl _ _ _ rfl (bh (ak p aD)) (zb rfl) λc f g e t w=> ?_;have l:=aT (x:=O.inst 2 (putL 15 (V.ref b) [])) (zl j) es;exact h c f b j (by
   refine bG.fresh ?_ (bP _);exact((bG.pre u).trans (bG.set (bP _))).trans ⟨g.len,λi o n=>g.keep i o (λz=>n (zf z))⟩) e (t 15 (.head _)) (g.keep _ _ (zg j) l)
end
noncomputable def IV:IB->IB->IB
 | .z,t=>t
 | .c s r,t=> .c s (IV r t)
theorem BG{C:aR}(t:IB):∀(b:IB) (m:Loc) (st:St) (K:KS),vB C (IV b t) m st K=vB C b m st (rj C t K)
 | .z,_,_,_=>rfl
 | .c s r,m,st,K=>congrArg (vS C s m st) (funext λfl=>funext λm'=>funext λc=>by
  cases fl
  .exact BG t r m' c K
  .rfl
  .rfl
  .rfl)
section
variable{d:Nat}{st cur:St}{K:KV}{KS:KS}{m:Loc}{a k:Nat}
def Fp(l:List Nat)(q:m[0]? =some (some (.ref a)))(e:IB):∀(b:IB) (g:List (Nat×V)) (cur:St),kR k m l b=true->cur[a]? =some (.inst k g)->g.length+An b<400->
  (∀c j,bG (·=a) cur c->c[a]? =some (.inst k j)->(∀f ∈ l,j.lookup f=g.lookup f)->j.length<400->vB (aq (d+1)) e m c KS)->vB (aq (d+1)) (IV b e) m cur KS:=λb g cur n o p h=>by
 rw [BG];exact mL l q b g cur n o p h
def iO{C:aR}{f i:Nat}{v:V}{r:IB}{b:List (Nat×V)}{st:St}(hi:m[i]? =some (some v))(g:m[0]? =some (some (.ref st.length)))(c:fj k f=none)(e:b.length<500)(h:vB C r m (st++ [.inst k (putL f v b)]) KS):vB C (.c (.X 0 f i) r) m (st++ [.inst k b]) KS:=by
 dsimp only [ah,Aa];refine aj hi _ ?_;dsimp only [bq];simp only [g,aD];refine⟨⟨c,e⟩,?_⟩;rw [aa,rJ];exact h
def IW{st cur c:St}{x:O}{o:O}(p:st++ [x] <+: cur)(g:bG (·=st.length) (cur.set st.length o) c):st <+: c:=by
 have b:st <+: cur:=(eE _ _).trans p;refine bG.fresh (n:=st.length) ?_ (bP _);exact((bG.pre b).trans (bG.set (bP _))).trans ⟨g.len,λi o n=>g.keep i o (λz=>n (zf z))⟩
def yL{st c:St}{x:O}(g:bG (·=st.length) (st++ [x]) c):st <+: c:=by
 refine bG.fresh (n:=st.length) ?_ (bP _);exact(bG.app (a:=st) [x]).trans ⟨g.len,λi o n=>g.keep i o (λz=>n (zf z))⟩
end
section
variable{d:Nat}{st cur:St}{K:KV}
def Fq{q f u j:V}{t:Nat}(h:∀cur b n,st <+: cur->cur[st.length]? =some (.inst 1 b)->b.lookup 9=some (.int 6)->b.lookup 10=some (.ref n)->cur[n]? =some (.list [.ref t])->K .none cur):aq (d+2) 6 [.ref st.length,q,f,.int 6,.ref t,u,j] (st++ [.inst 1 []]) K:=by
 refine call_in Tc [some (.ref st.length),some q,some f,some (.int 6),some (.ref t),some u,some j] ?_ (by decide) rfl rfl rfl;refine iO rfl rfl rfl (by simp) ?_;refine iO rfl rfl rfl (zb rfl) ?_;refine iO rfl rfl rfl (zb rfl) ?_;refine qt (a:=st.length) (k:=1) (λv c=>∃n,v= .ref n/\st.length<n/\c[n]? =some (.list [.ref t])) aD rfl rfl (zb rfl) (λy w=> ?_) λcur v p ⟨n,e,l,es⟩=> ?_
 .dsimp only [fQ,aW];refine aj rfl _ ?_;refine⟨(zb rfl),w _ _ (eE _ _) ⟨_,rfl,PK,aD⟩⟩
 .subst e;refine mL [9,10] rfl _ _ _ rfl (bh (ak p aD)) (zb rfl) λc b g e o x=> ?_;exact h c b n (IW p g) e (by rw [o 9 (.head _)];exact rfl) (by rw [o 10 (.tail _ (.head _))];exact rfl) (g.keep _ _ (zg l) (aT (zl l) es))
def IX{l j f:V}(h:∀cur b,st <+: cur->cur[st.length]? =some (.inst 7 b)->b.length<400->K .none cur):aq (d+2) 24 [.ref st.length,l,j,f] (st++ [.inst 7 []]) K:=by
 refine call_in MI [some (.ref st.length),some l,some j,some f] ?_ (by decide) rfl rfl rfl;dsimp only [MI];refine mL [] rfl _ _ _ rfl aD (by dsimp only [An];exact(zb rfl)) λc b g e o n=> ?_;exact h c b (yL g) e n
noncomputable def Lk:List Nat:=[20,21,22,58,60,111,112,113]
set_option maxRecDepth 4000 in
def IY{a b c e f g i j:V}:kR 15 [some a,some b,some c,some e,some f,some g,some i,some j] Lk Ao=true:=by kernel_rfl
def MJ:An Ao<300:=by decide+kernel
def Ft{f l bd j nm dg nt:V}(h:∀cur b,st <+: cur->cur[st.length]? =some (.inst 15 b)->b.lookup 22=some f->b.lookup 21=some bd->b.lookup 58=some j->b.lookup 20=some dg->b.lookup 60=some nt->b.lookup 111=none->b.lookup 112=none->b.lookup 113=none->K .none cur):aq (d+2) 27 [.ref st.length,f,l,bd,j,nm,dg,nt] (st++ [.inst 15 []]) K:=by
 refine call_in MK [some (.ref st.length),some f,some l,some bd,some j,some nm,some dg,some nt] ?_ (by decide) rfl rfl rfl;rw [MK];refine iO rfl rfl rfl (by simp) ?_;refine iO rfl rfl rfl (zb rfl) ?_;refine iO rfl rfl rfl (zb rfl) ?_;refine iO rfl rfl rfl (zb rfl) ?_;refine iO rfl rfl rfl (zb rfl) ?_;refine iO rfl rfl rfl (zb rfl) ?_;refine iO rfl rfl rfl (zb rfl) ?_;refine mL Lk rfl _ _ _ IY aD (by have:=MJ;simp [putL];exact bK λn=>bx (CC _) (AN (AN aE aA) (.num 400)) (AN (.num 300) (AN (.num 7) aE)) (aH this n) rfl) λc b g e o p=> ?_;refine h c b (yL g) e ?_ ?_ ?_ ?_ ?_ ?_ ?_ ?_
 all_goals (rw [o _ (by decide)];exact rfl)
structure TT (st:St) (a r dd:Nat) (fs:List (Nat×V)) (xs:List V) (es:List (List V×V)) (cur:St):Prop where
 ob:cur[a]? =some (.inst 6 fs)
 PM:fs.lookup 27=some (.ref r)
 PN:fs.lookup 28=some (.ref dd)
 Ra:fs.lookup 45=none
 Ou:cur[r]? =some (.list xs)
 di:(es=[]/\cur[dd]? =some (.dict []))\/cur[dd]? =some (.dU es)
 ne:r≠dd/\a≠r/\a≠dd
def PO:IB:= .e (.ex (.kN (.l 0) 45 (.e (.l 1))))
def MM{a r dd:Nat}{n:List (Nat×V)}{xs:List V}{es:List (List V×V)}{l:List V}(T:TT st a r dd n xs es cur)(c:jP 3 (.tup l)=true)(w:∀e ∈ es,e.1≠l)(A:es.length<400)(q:xs.length<900)(h:∀b v,bG (Mt r dd) cur b->TT st a r dd n (xs++ [.tup l]) (es++ [(l,.int xs.length)]) b->K v b):aq (d+1) 23 [.ref a,.tup l] cur K:=by
 refine call_in MN [some (.ref a),some (.tup l),none] ?_ (by decide) rfl rfl rfl;have f:(es.any λe=>decide (e.1=l))=false:=by rw [CV];intro e y;simpa using w e y
 dsimp only [MN,ah];refine aV false (λC h'=> ?_) ?_
 .dsimp only [K_];refine aj rfl _ ?_;refine aK (aj rfl) T.ob T.PN ?_;rcases T.di with⟨_,e⟩ |e
  .simp only [e];exact⟨c,h'⟩
  .simp only [e,f]
   cases es with
   |nil=>exact⟨c,h'⟩
   |cons x es=>exact⟨c,h'⟩
 .rw [if_neg (by decide),au,aa,ah,cL,jh];refine aK (aj rfl) T.ob T.PM ?_;simp only [T.Ou,cB,cA];dsimp only [aa,ah,gy,iV];refine aK (aj rfl) T.ob T.PM ?_;simp only [T.Ou];refine aj rfl _ ?_;simp only [T.Ou];refine⟨by simp only [big];exact zt q (zr 999100),?_⟩;have ne:=T.ne;have g:=aT (x:=O.list (xs++ [.tup l])) (λz=>ne.2.1 z.symm) T.ob;have u:=bh (x:=O.list (xs++ [.tup l])) T.Ou;have j:(es=[]/\(cur.set r (O.list (xs++ [.tup l])))[dd]? =some (.dict []))\/(cur.set r (O.list (xs++ [.tup l])))[dd]? =some (.dU es):=by
   rcases T.di with⟨z,e⟩ |e
   .exact .inl ⟨z,aT ne.1 e⟩
   .exact .inr (aT ne.1 e)
  dsimp only [aa,ah,Pf];refine aj rfl _ ?_;refine aK (aj rfl) g T.PN ?_;refine aj rfl _ ?_;have fin:vB (aq d) (.e (.ret (.l 2))) [some (.ref a),some (.tup l),some (.int xs.length)] ((cur.set r (O.list (xs++ [.tup l]))).set dd (.dU (es++ [(l,.int xs.length)]))) (oM K):=by
   dsimp only [ah,fZ];refine aj rfl _ ?_;have p:∃o,(cur.set r (O.list (xs++ [.tup l])))[dd]? =some o:=by rcases j with⟨_,e⟩ |e<;>exact⟨_,e⟩
   obtain ⟨o,t⟩:=p;refine h _ _ ((bG.set (.inl rfl)).trans (bG.set (.inr rfl))) ⟨aT (λz=>ne.2.2 z.symm) g,T.PM,T.PN,T.Ra,aT (λz=>ne.1 z.symm) u,.inr (bh t),ne⟩
  rcases j with⟨z,e⟩ |e
  .subst z;simp only [e];refine⟨c,?_⟩;exact fin
  .simp only [e];refine⟨⟨c,(zt A (zr 100)),f⟩,?_⟩;exact fin
theorem yM{KS:KS}{a r dd:Nat}{A:List (Nat×V)}:∀(l:List (List V)) (xs:List V) (es:List (List V×V)) (cur:St) (b:Option V),TT st a r dd A xs es cur->(∀x ∈ l,jP 3 (.tup x)=true)->(∀x ∈ l,∀e ∈ es,e.1≠x)->l.Pairwise (·≠·)->es.length+l.length<400->xs.length+l.length<900->
  (∀h b,bG (Mt r dd) cur h->KS .next [some (.ref a),b] h)->bC (λm st k=>vB (aq (d+1)) PO m st k) (λv m=>some (m.set 1 (some v))) none (l.map V.tup) [some (.ref a),b] cur KS
 | [],xs,es,cur,b,T,t,w,o,n,j,u=>by
  exact⟨trivial,u cur b (bG.refl _)⟩
 |x::l,xs,es,cur,b,T,t,w,o,n,j,u=>by
  refine⟨trivial,?_⟩;simp only [cV]at n j;refine jn (g':=23) (aj rfl) T.ob T.Ra C7 (by decide) ?_;refine MM T (t x (.head _)) (w x (.head _)) (zt (za (zr _) 1) n) (zt (za (zr _) 1) j) λc v g C=> ?_;rw [E_]at o;exact yM l _ _ c _ C (λy p=>t y (.tail _ p)) (λy p e f=>by
   refine a_ (List.mem_append.mp f) (λf=> ?_) λf=> ?_
   .exact w y (.tail _ p) e f
   .rw [List.mem_singleton.mp f];exact o.1 y p) o.2 (by simp;exact bK λq=>bx (fL _ _) (AN (AN (AN aE (AN aI aA)) aA) (.num 400)) (AN (.num 400) (AN (AN aE aA) aI)) (aH n q) rfl) (by simp;exact bK λq=>bx (fL _ _) (AN (AN (AN aI (AN aE aA)) aA) (.num 900)) (AN (.num 900) (AN (AN aI aA) aE)) (aH j q) rfl) λz b g'=>u z b (g.trans g')
noncomputable def tB:List (List V):=[[.int 1,.str 36],[.int 1,.str 37],[.int 1,.str 38],[.int 1,.str 39],[.int 1,.str 40],[.int 1,.str 41],[.int 1,.str 42],[.int 1,.str 24],[.int 2,.int 0,.int 0],[.int 2,.int 1,.int 0],[.int 1,.str 43],[.int 8,.tup [],.tup [],.tup [],.tup [],.tup [],.int 0],[.int 6,.tup [.int 8,.int 9]],[.int 1,.str 44],[.int 2,.int 0,.int 1],[.int 2,.int 1,.int 1]]
def PR:bU 10= .tup (tB.map V.tup):=rfl
def Aq:∀x ∈ tB,jP 3 (.tup x)=true:=List.all_eq_true.mp (show(tB.all λx=>jP 3 (.tup x))=true by kernel_rfl)
def C8:tB.Pairwise (·≠·):=by decide+kernel
def Fv:IB:=(.q (.x 0 29 .lz) (.x 0 30 .lz) (.x 0 31 .lz) (.xd 0 32) (.f (.xd 0 33) (.x 0 34 (.n 0)) (.x 0 35 (.n 0))))
def IZ{a:V}:kR 6 [some a,none] [27,28,23,45] Fv=true:=by
 rfl
def u5{M:Nat->Prop}{a b c:St}{i:Nat}{x:O}(g:bG M a b)(p:b.set i x <+: c)(h:M i):bG M a c:=(g.trans (bG.set h)).trans (bG.pre p)
def PS(h:∀cur g dl,st.length<dl->st <+: cur->cur[st.length]? =some (.inst 6 g)->g.lookup 23=some (.ref dl)->cur[dl]? =some (.list [.none])->K .none cur):aq (d+3) 22 [.ref st.length] (st++ [.inst 6 []]) K:=by
 refine call_in MO [some (.ref st.length),none] ?_ (by decide) rfl rfl rfl;have e:MO=(.j (.x 0 27 .lz) (.xd 0 28) (.x 0 23 (.list (.e .o))) (IV Fv (.e (.gI 1 (.seq (.g 10)) PO)))):=rfl;refine qt (a:=st.length) (k:=6) (λv c=>∃n,v= .ref n/\n=st.length+1/\c[n]? =some (.list [])) aD rfl rfl (by simp) (λU l=> ?_) λy v1 x ⟨r,er,b,e1⟩=> ?_
 .dsimp only [fQ,cy];exact⟨(gP _),l _ _ (eE _ _) ⟨_,rfl,Td,aD⟩⟩
 subst er;have l1:=aJ e1;refine qt (a:=st.length) (k:=6) (λv c=>∃n,v= .ref n/\n=y.length/\c[n]? =some (.dict [])) (bh (ak x aD)) rfl rfl (zb rfl) (λU l=> ?_) λA v2 w ⟨dd,ed,f,e2⟩=> ?_
 .dsimp only [Ff,cy];exact⟨rfl,l _ _ (eE _ _) ⟨_,rfl,vO,aD⟩⟩
 subst ed;have l2:=aJ e2;refine qt (a:=st.length) (k:=6) (λv c=>∃n,v= .ref n/\n=A.length/\c[n]? =some (.list [.none])) (bh (ak w (bh (ak x aD)))) rfl rfl (zb rfl) (λU l=> ?_) λI v3 u ⟨dl,ev,q,N⟩=> ?_
 .dsimp only [fQ,aW,bV,cy];exact⟨(zb rfl),l _ _ (eE _ _) ⟨_,rfl,vO,aD⟩⟩
 subst ev;have l3:=aJ N;have q1:y <+: A.set st.length (.inst 6 [])\/True:= .inr trivial;have H:A[r]? =some (.list []):=ak w (aT (zl (zf b)) e1);have L:I[r]? =some (.list []):=ak u (aT (zl (zf b)) H);have E:I[dd]? =some (.dict []):=ak u (aT (zl (zt (zt (zf b) (zs l1)) (zf f))) e2);refine Fp (d:=d+1) [27,28,23,45] rfl _ Fv _ _ IZ (bh (ak u (bh (ak w (bh (ak x aD)))))) (zb rfl) λt g g4 Q j hl=> ?_;have PM:g.lookup 27=some (.ref r):=by rw [j 27 (.head _)];exact rfl
 have PN:g.lookup 28=some (.ref dd):=by rw [j 28 (.tail _ (.head _))];exact rfl
 have D:g.lookup 23=some (.ref dl):=by rw [j 23 (by decide)];exact rfl
 have Ra:g.lookup 45=none:=by rw [j 45 (by decide)];exact rfl
 have G:t[r]? =some (.list []):=g4.keep _ _ (zg (zf b)) (aT (zl (zf b)) L);have M:t[dd]? =some (.dict []):=g4.keep _ _ (zg (zt (zt (zf b) (zs l1)) (zf f))) (aT (zl (zt (zt (zf b) (zs l1)) (zf f))) E);have C:t[dl]? =some (.list [.none]):=g4.keep _ _ (zg (zt (zt (zt (zt (zf b) (zs l1)) (zf f)) (zs l2)) (zf q))) (aT (zl (zt (zt (zt (zt (zf b) (zs l1)) (zf f)) (zs l2)) (zf q))) N);have J:st <+: t:=by
  refine bG.fresh (n:=st.length) ?_ (bP _);have s1:bG (λi=>st.length<=i) st y:=bG.pre ((eE _ _).trans x);exact((u5 (u5 s1 w (bP _)) u (bP _)).trans (bG.set (bP _))).trans ⟨g4.len,λi o n=>g4.keep i o (λz=>n (zf z))⟩
 refine yM (st:=st) (a:=st.length) (r:=r) (dd:=dd) tB [] [] t _ ⟨Q,PM,PN,Ra,G,.inl ⟨rfl,M⟩,(zl (zt l1 (zf f))),(zl (zf b)),(zl (zt (zt (zf b) (zs l1)) (zf f)))⟩ Aq (λzz zz e j=>by cases j) C8 (zb rfl) (zb rfl) λc5 v g5=> ?_;have p:∀i,i≠r->i≠dd-> ¬Mt r dd i:=λi h1 Y z=>z.elim h1 Y;refine h c5 g dl (zt (zt (zt (zt (zf b) (zs l1)) (zf f)) (zs l2)) (zf q)) ?_ (g5.keep _ _ (p _ (zl (zf b)) (zl (zt (zt (zf b) (zs l1)) (zf f)))) Q) D (g5.keep _ _ (p _ (zg (zt (zt (zt l1 (zf f)) (zs l2)) (zf q))) (zg (zt l2 (zf q)))) C);refine bG.fresh (n:=st.length) ?_ (bP _);exact(bG.pre J).trans ⟨g5.len,λi o n=>g5.keep i o (p _ (zl (zt (bK n) (zs (zf b)))) (zl (zt (zt (zt (bK n) (zs (zf b))) (zs l1)) (zf f))))⟩
end
structure PX where
 n:Nat
 oa:Nat
 t:T
 pat:T
 own:Option T
 flags:Int
 aM:List (T×List Mk)
abbrev PX.val(p:PX):V:= .tup [.ref p.t.a,.ref p.oa,nu p.own,.bool (jD p.pat p.flags)]
abbrev PX.ok(lo:Nat)(st:St)(p:PX):Prop:=Ed lo st p.n p.oa p.t p.pat p.own p.flags p.aM
abbrev e9(l:List PX):List Mk:=(l.map λp=>flat p.aM).flatten
def Ed.up{lo:Nat}{st a:St}{M:Nat->Prop}{n oa:Nat}{t pat:T}{own:Option T}{flags:Int}{aM:List (T×List Mk)}(P:Ed lo st n oa t pat own flags aM)(k:aC M st a)(b:∀i,lo<=i->i<st.length-> ¬M i):Ed lo a n oa t pat own flags aM:=
 {P with rep:=(P.rep.keep k b).wide (bP _) k.len,seg:=λs c=>⟨(P.seg s c).1.up k b,(P.seg s c).2⟩,out:=k.keep _ _ (b _ P.Ic.1 P.Ic.2) P.out (fq _ _).hit,Ic:=⟨P.Ic.1,pG P.Ic.2 k.len⟩}
def Ed.low{lo a:Nat}{st:St}{n oa:Nat}{t pat:T}{own:Option T}{flags:Int}{aM:List (T×List Mk)}(P:Ed lo st n oa t pat own flags aM)(h:a<=lo):Ed a st n oa t pat own flags aM:=
 {P with rep:=P.rep.wide h (bP _),seg:=λs b=>⟨(P.seg s b).1.low h,(P.seg s b).2⟩,Ic:=⟨iA h P.Ic.1,P.Ic.2⟩}
structure Fw (L:Lay) (lo:Nat) (l:List PX) (st:St):Prop where
 par:∀p ∈ l,p.ok lo st
 off:∀p ∈ l,∃A B,e9 l=A++flat p.aM++B/\A.length=p.n
 nd:((l.map λp=>p.t.ids).flatten).Nodup
 few:l.length<=2
section
variable{d:Nat}{st:St}{K:KV}{L:Lay}{aL:Int}{lo acc:Nat}{m:Loc}{l:List PX}
def MP(h:∀p ∈ l,(flat p.aM).length<=77):(e9 l).length<=77*l.length:=by
 induction l with
 |nil=>exact(bP _)
 |cons p r c=>
  have e:=h p (.head _);have a:=c λx f=>h x (.tail _ f);simp only [e9,cP,iX,cC,cV]at a ⊢;exact cD λb=>bx (jt _ _ _) (AN aE (AN aI (AN (.mulL 77 (AN bg aA)) aA))) (AN (.num 77) (AN (.mulL 77 bg) (AN aE aI))) (aH e (aH a b)) rfl
def Ed.R4{n oa:Nat}{t pat:T}{own:Option T}{flags:Int}{aM:List (T×List Mk)}(P:Ed lo st n oa t pat own flags aM):(flat aM).length<=77:=by
 have b:=f_ λs c=>(P.seg s c).2.1;have e:=P.len;exact cD λa=>bx (fL _ _) (AN aE (AN (.mulL 11 aI) (AN (.num 77) aA))) (AN (.mulL 11 aI) (AN (.mulL 11 (.num 7)) aE)) (aH b (aH (fJ 11 e) a)) rfl
def Fw.rA(P:Fw L lo l st):(e9 l).length<=154:=by
 have e:=MP λp a=>(P.par p a).R4;have c:=P.few;exact cD λb=>bx (fL _ _) (AN aE (AN (.mulL 77 aI) (AN (.num 154) aA))) (AN (.mulL 77 aI) (AN (.mulL 77 (.num 2)) aE)) (aH e (aH (fJ 77 c) b)) rfl
def Fx{src:Option (Nat×List V)}(U:m[1]? =some (some (.ref L.p)))(Y:m[2]? =some (some (.ref L.b)))(j:src=none)(q:L.b<lo)(D:acc<lo)(hn: ¬M0 L acc):∀(bA:List V) (l:List PX) (st:St) (aL:Int),Fw L lo l st->dI L aL (e9 l) st->lo<=st.length->st[acc]? =some (.list (l.map PX.val))->l.length+bA.length<=2->
  (∀f cnt' l',Fw L lo l' f->dI L cnt' (e9 l') f->aC (M1 L acc) st f->f[acc]? =some (.list (l'.map PX.val))->K (.ref acc) f)->
  compLoop (λm st k=>vE (aq (d+12)) (.L 54 1 2) m st k) (λm st k=>iB (aq (d+12)) .z m st (tr k)) 33 src acc m bA (l.map PX.val) st K:=by
 intro zl
 induction zl with
 |nil=>
  intro l st aL P B u z h hK;subst j;exact⟨trivial,hK st aL l P B (aC.refl _) z⟩
 |cons it bA zi=>
  intro l st aL P B u z h hK;subst j;refine⟨trivial,?_⟩;simp only [cV]at h;have g1:(m.set 33 (some it))[1]? =some (some (.ref L.p)):=by rw [j7 (zg (bI rfl))];exact U
  have g2:(m.set 33 (some it))[2]? =some (some (.ref L.b)):=by rw [j7 (zg (bI rfl))];exact Y
  have ml:=P.rA;simp only [cy,aW,bq,cJ,g1,g2];refine Ef B q u (zt (za ml 1) (zr 299845)) λw G oa t pat own flags aM B1 k1 P1 J=> ?_;have N:oS (l.map PX.val):=λv hv=>by obtain ⟨p,_,rfl⟩:=List.mem_map.mp hv;exact⟨_,rfl⟩
  have g:=k1.keep _ _ hn z N.hit;refine⟨g,by simp only [bN,big];exact zt (zt (za (zr _) 1) (za h 1)) (bI rfl),?_⟩;have e1:l.map PX.val++ [V.tup [.ref t.a,.ref oa,nu own,.bool (jD pat flags)]]=(l++ [(⟨(e9 l).length,oa,t,pat,own,flags,aM⟩:PX)]).map PX.val:=by simp
  rw [e1];have o:=B.ord;have I:e9 (l++ [(⟨(e9 l).length,oa,t,pat,own,flags,aM⟩:PX)])=e9 l++flat aM:=by simp [e9]
  have l1:=k1.len;have Q:∀x:O,aC (·=acc) w (w.set acc x):=λx=>aC.set rfl;have la:∀i,lo<=i->i<w.length-> ¬i=acc:=λi h1 n e=>(fV _ (zt D (zt h1 (ze e))));refine zi _ _ G ⟨λp c=> ?_,λp c=> ?_,?_,by simp;exact cD λn=>bx (fL _ _) (AN (AN aE (AN aI aA)) (AN aA aA)) (AN (.num 2) aE) (aH h n) rfl⟩ ?_ (by simp;exact zt u l1) (bh g) (by simp;exact cD λn=>bx (fL _ _) (AN (AN aE (AN aI aA)) (AN (.num 2) aA)) (AN (.num 2) (AN (AN aE aA) aI)) (aH h n) rfl) λs2 E l2 P2 B2 k2 h2=>hK s2 E l2 P2 B2 ((k1.m1.trans (aC.set (.inr rfl))).trans k2) h2
  .rcases List.mem_append.mp c with c |c
   .exact((P.par p c).up k1 (mw q o)).up (Q _) la
   .rw [List.mem_singleton.mp c];exact P1.up (Q _) la
  .rw [I];rcases List.mem_append.mp c with c |c
   .refine lM (P.off p c) λA C e hA=> ?_;exact⟨A,C++flat aM,by rw [e];exact(fW ..),hA⟩
   .rw [List.mem_singleton.mp c];exact⟨e9 l,[],by simp,rfl⟩
  .simp only [List.map_append,wA,cP,qg,iX,wC,fK,nc];refine⟨P.nd,P1.nd,λa y b hb e=> ?_⟩;refine aB (List.mem_flatten.mp y) λli M y=> ?_;refine aB (List.mem_map.mp M) λp c H=> ?_;subst H;have j1:=((P.par p c).rep.bd a y).2;have j2:=J b hb;exact fV _ (zt j1 (zt j2 (zf e)))
  .rw [I];exact B1.other hn g N.hit
structure I0 (L:Lay) (lo:Nat) (l:List (T×List Mk)) (st:St):Prop where
 row:∀s ∈ l,Piece lo st s.2 s.1 true/\(s.2.length<=11/\s.1.ids.length<=40)
 nd:((l.map λs=>s.1.ids).flatten).Nodup
 few:l.length<=3
def gi(c:List T):uK (.list (br c))=false:=by
 match c with
 | []=>rfl
 | [a]=>rfl
 |a::b::r=>rfl
def Fy{src:Option (Nat×List V)}{f:List Mk}(Q:m[1]? =some (some (.ref L.p)))(U:m[2]? =some (some (.ref L.b)))(t:src=none)(J:L.b<lo)(D:acc<lo)(hn: ¬M0 L acc)(I:f.length<=200):∀(bA:List V) (l:List (T×List Mk)) (st:St) (aL:Int),I0 L lo l st->dI L aL (f++flat l) st->lo<=st.length->st[acc]? =some (.list (br (l.map (·.1))))->l.length+bA.length<=3->
  (∀h C l',I0 L lo l' h->dI L C (f++flat l') h->aC (M1 L acc) st h->h[acc]? =some (.list (br (l'.map (·.1))))->l'.length=l.length+bA.length->K (.ref acc) h)->
  compLoop (λm st k=>vE (aq (d+7)) (.w 51 (.l 1) (.l 2) .bt) m st k) (λm st k=>iB (aq (d+7)) .z m st (tr k)) 34 src acc m bA (br (l.map (·.1))) st K:=by
 intro zl
 induction zl with
 |nil=>
  intro l st aL P B v z n A;subst t;exact⟨trivial,A st aL l P B (aC.refl _) z rfl⟩
 |cons it bA zi=>
  intro l st aL P B v z n A;subst t;refine⟨trivial,?_⟩;simp only [cV]at n;have g1:(m.set 34 (some it))[1]? =some (some (.ref L.p)):=by rw [j7 (zg (bI rfl))];exact Q
  have g2:(m.set 34 (some it))[2]? =some (some (.ref L.b)):=by rw [j7 (zg (bI rfl))];exact U
  have ml:=f_ λs hs=>(P.row s hs).2.1;have pf:=P.few;simp only [cy,aW,bq,bV,cJ,g1,g2];refine BH B (by have:=aJ B.vM;exact this) (bP _) (by rw [cC];exact bK λc=>bx (oJ _ _ _ _) (AN aE (AN (.mulL 11 (AN aI (AN bg aA))) (AN dm (.num 700000)))) (AN (.num 200) (AN (.mulL 11 (.num 3)) (AN (.mulL 11 aI) (AN aE dm)))) (aH I (aH (fJ 11 n) (aH ml c))) rfl) λw G q u B1 k1 P1 n1 z1=> ?_;have j:=k1.keep _ _ hn z (gi _);refine⟨j,by simp only [bN,big];exact zt (za pf 1) (zr 999996),?_⟩;have e1:br (l.map (·.1))++ [V.ref u.a]=br ((l++ [(u,q)]).map (·.1)):=by simp
  rw [e1];have o:=B.ord;have em:f++flat (l++ [(u,q)])=(f++flat l)++q:=by rw [fk,jB,fW]
  have l1:=k1.len;have Y:∀i,lo<=i->i<w.length-> ¬i=acc:=λi h1 c e=>(fV _ (zt D (zt h1 (ze e))));have N:∀x:O,aC (·=acc) w (w.set acc x):=λx=>aC.set rfl;refine zi _ _ G ⟨λp g=> ?_,?_,by simp;exact cD λc=>bx (fL _ _) (AN (AN aE (AN aI aA)) (AN (.num 2) aA)) (AN (.num 3) aE) (aH n c) rfl⟩ ?_ (by simp;exact zt v l1) (bh j) (by simp;exact cD λc=>bx (fL _ _) (AN (AN aE (AN aI aA)) (AN (.num 3) aA)) (AN (.num 3) (AN (AN aE aA) aI)) (aH n c) rfl) λs2 E l2 P2 B2 k2 h2 n2=>A s2 E l2 P2 B2 ((k1.m1.trans (aC.set (.inr rfl))).trans k2) h2 (by rw [n2];simp;exact iW (cD λc=>bx (fL _ _) (AN (AN aE (AN aI aA)) aA) (AN (AN aE aA) aI) c rfl) (cD λc=>bx (fL _ _) (AN (AN (AN aE aA) aI) aA) (AN aE (AN aI aA)) c rfl))
  .rcases List.mem_append.mp g with g |g
   .exact⟨((P.row p g).1.up k1 (mw J o)).up (N _) Y,(P.row p g).2⟩
   .rw [List.mem_singleton.mp g];exact⟨(P1.low v).up (N _) Y,n1,z1⟩
  .simp only [List.map_append,wA,cP,qg,iX,wC,fK,nc];refine⟨P.nd,P1.nd,λa y b hb e=> ?_⟩;refine aB (List.mem_flatten.mp y) λli M y=> ?_;refine aB (List.mem_map.mp M) λp g H=> ?_;subst H;have j1:=((P.row p g).1.rep.bd a y).2;have j2:=(P1.rep.bd b hb).1
   lia
  .rw [em];exact B1.other hn j (gi _)
end
def qu(n:T):Prop:=∃a at_ c b,n= .mk a at_ 27 256 0 (.no (.c (.mk c b 71 0 0 .z) (.no (.no .z))))
structure Mem (L:Lay) (lo n1:Nat) (func:T) (mem:List T) (st:St):Prop where
 kind:∀n ∈ mem,n=func\/(qu n/\(∀x ∈ n.ids,n1<=x)/\Rep lo st.length zn st n)
 nd:((mem.map T.ids).flatten).Nodup
section
variable{d:Nat}{st:St}{K:KV}{KS:KS}{L:Lay}{aL:Int}{lo mq n1:Nat}{m:Loc}{ms:List Mk}{func:T}{mem:List T}
def Mem.up{M:Nat->Prop}{e:St}(P:Mem L lo n1 func mem st)(k:aC M st e)(f:∀i,lo<=i->i<st.length-> ¬M i):Mem L lo n1 func mem e:={P with kind:=λn g=>(P.kind n g).imp id λ⟨a,b,c⟩=>⟨a,b,(c.keep k f).wide (bP _) k.len⟩}
def Fz{w:Int}(h1:m[1]? =some (some (.ref L.p)))(h2:m[2]? =some (some (.ref L.b)))(h6:m[6]? =some (some (.int w)))(c5:m[12]? =some (some (.ref func.a)))(c4:m[13]? =some (some (.ref mq)))(hm:14<m.length)(t:L.b<lo)(d4:mq<lo)(hn: ¬M0 L mq)(Y:∀x ∈ func.ids,x<n1)(c9:func.ids.Nodup)(b4:ms.length<900000):
  ∀(bA:List Int) (mem:List T) (st:St) (aL:Int) (x:Option V),Mem L lo n1 func mem st->dI L aL ms st->lo<=st.length->n1<=st.length->st[mq]? =some (.list (br mem))->mem.length+bA.length<=3->bA.Nodup->(func ∈ mem->w ∉ bA)->
  (∀y c1 c x,Mem L lo n1 func c y->dI L c1 ms y->aC (M1 L mq) st y->y[mq]? =some (.list (br c))->c.length<=3->(w ∈ bA->func ∈ c)->(func ∈ mem->func ∈ c)->KS .next (m.set 14 x) y)->
  bC (λm st k=>vB (aq (d+12)) PT m st k) (λv m=>some (m.set 14 (some v))) none (bA.map V.int) (m.set 14 x) st KS:=by
 intro zl
 induction zl with
 |nil=>
  intro mem st aL x P B C f D u l hw hK;exact⟨trivial,hK st aL mem x P B (aC.refl _) D (by simpa using u) (λh=>by cases h) id⟩
 |cons i bA zi=>
  intro mem st aL x P B C f D u l hw hK;simp only [cP,bC];refine⟨trivial,?_⟩;rw [List.set_set];simp only [cV]at u;have g1:(m.set 14 (some (.int i)))[1]? =some (some (.ref L.p)):=by rw [j7 (zg (bI rfl))];exact h1
  have g2:(m.set 14 (some (.int i)))[2]? =some (some (.ref L.b)):=by rw [j7 (zg (bI rfl))];exact h2
  have g6:(m.set 14 (some (.int i)))[6]? =some (some (.int w)):=by rw [j7 (zg (bI rfl))];exact h6
  have d6:(m.set 14 (some (.int i)))[12]? =some (some (.ref func.a)):=by rw [j7 (zg (bI rfl))];exact c5
  have b5:(m.set 14 (some (.int i)))[13]? =some (some (.ref mq)):=by rw [j7 (zg (bI rfl))];exact c4
  have d0:(m.set 14 (some (V.int i)))[14]? =some (some (.int i)):=vN hm;have o:=B.ord;rw [lG]at l;have ks:∀(s:St) (x:O),aC (·=mq) s (s.set mq x):=λs x=>aC.set rfl;have la:∀(s:St) (i:Nat),lo<=i->i<s.length-> ¬i=mq:=λs i h1 q e=>(fV _ (zt d4 (zt h1 (ze e))));rw [PT,ah];refine aV (i==w) (λK' h'=>by simp only [bq,d_,d0,g6,cv,b_];exact h') ?_;by_cases hi:i=w
  .have c3:func ∉ mem:=λh=>hw h (by simp [hi]);rw [if_pos (by simp [hi]),ah,gy,iV];simp only [bq,b5,D,d6];refine⟨by simp only [bN,big];exact zt (zt (za (zr _) 1) (za u 1)) (bI rfl),?_⟩;have e1:br mem++ [V.ref func.a]=br (mem++ [func]):=by simp
   rw [e1];refine zi (mem++ [func]) _ aL _ ⟨λn a6=> ?_,?_⟩ (B.other hn D (gi _)) (by simpa using C) (by simpa using f) (bh D) (by simp;exact cD λq=>bx (fL _ _) (AN (AN aE (AN aI aA)) (AN (.num 3) aA)) (AN (.num 3) (AN (AN aE aA) aI)) (aH u q) rfl) l.2 (λq=>by rw [<-hi];exact l.1) λJ c' c x' P' Q H e' M w1 w2=>hK J c' c x' P' Q ((aC.set (.inr rfl)).trans H) e' M (λq=>w2 (by simp)) (λq=>w2 (by simp))
   .rcases List.mem_append.mp a6 with h |h
    .exact(P.up (ks st _) (la st)).kind n h
    .exact .inl (List.mem_singleton.mp h)
   .simp only [List.map_append,wA,cP,qg,iX,wC,fK,nc];refine⟨P.nd,c9,λa g b hb e=> ?_⟩;refine aB (List.mem_flatten.mp g) λli I g=> ?_;refine aB (List.mem_map.mp I) λp hp G=> ?_;subst G;rcases P.kind p hp with rfl |⟨_,h,_⟩
    .exact c3 hp
    .have j1:=h a g;have j2:=Y b hb;exact fV _ (zt j2 (zt j1 (ze e)))
  .have b3:∀{c:List T},(w ∈ bA->func ∈ c)->w ∈ i::bA->func ∈ c:=λh hm=>by
    rcases List.mem_cons.mp hm with e |hm
    .exact absurd e.symm hi
    .exact h hm
   rw [if_neg (by simp [hi]),ah,j6,d_];simp only [bq,bV,cJ,cy,aW,g1];refine fH B (by decide) λv s1 v0 v2 B1 k1 l1=> ?_;simp only [cv,b_,bz];have P1:=P.up k1 (mw t o);have E:=k1.keep _ _ hn D (gi _);by_cases hv:v=1
   .subst hv;simp only [beq_self_eq_true];rw [ah,gy,iV];simp only [bq,b5,E];rw [cJ,aW,bq];simp only [g2,cy,aW,bq,bV,iU,cJ,fQ,jV,sY];refine⟨(gP _),?_⟩;refine tC (ai:= .z) rfl B1 t (zt C (zf l1)) trivial b4 λs2 a2 A k2 B2 r2=> ?_;have l2:=k2.len;have b2:=(r2.bd a2 (.head _)).2;refine⟨(zb rfl),?_⟩;refine bR (ai:= .no (.c (.mk a2 (aL+1) 71 0 0 .z) (.no (.no .z)))) rfl B2 t (zt (zt C (zf l1)) l2) ⟨r2,trivial⟩ b4 λs3 a3 z k3 B3 r3=> ?_;have l3:=k3.len;have b6:=(k1.trans k2).trans k3;have U:=(k2.trans k3).keep _ _ hn E (gi _);rw [U];refine⟨by simp only [bN,big];exact zt (zt (za (zr _) 1) (za u 1)) (bI rfl),?_⟩;have e1:br mem++ [V.ref a3]=br (mem++ [.mk a3 (aL+1+1) 27 256 0 (.no (.c (.mk a2 (aL+1) 71 0 0 .z) (.no (.no .z))))]):=by simp [T.a]
    rw [e1];have P3:=(P1.up k2 (mw t o)).up k3 (mw t o);refine zi _ _ _ _ ⟨λn a6=> ?_,?_⟩ (B3.other hn U (gi _)) (by simp;exact zt (zt (zt C (zf l1)) l2) l3) (by simp;exact zt (zt (zt f (zf l1)) l2) l3) (bh U) (by simp;exact cD λq=>bx (fL _ _) (AN (AN aE (AN aI aA)) (AN (.num 3) aA)) (AN (.num 3) (AN (AN aE aA) aI)) (aH u q) rfl) l.2 (λd1=> ?_) λJ c' c x' P' Q H e' M w1 w2=>hK J c' c x' P' Q ((b6.m1.trans (aC.set (.inr rfl))).trans H) e' M (b3 w1) (λh=>w2 (by simp [h]))
    .rcases List.mem_append.mp a6 with h |h
     .exact(P3.up (ks s3 _) (la s3)).kind n h
     .rw [List.mem_singleton.mp h];exact .inr ⟨⟨_,_,_,_,rfl⟩,λx g=>by simp [T.aU,TL.aU,TL.cX,TL.cG]at g;exact a_ g (λj=>(zt (zt (zt (zt f (zf l1)) l2) (zs z)) (zf j))) λj=>(zt (zt (zt f (zf l1)) (zs A)) (zf j)),(r3.keep (ks _ _) (la _)).wide (bP _) (by simp)⟩
    .simp only [List.map_append,wA,cP,qg,iX,wC,fK,nc];refine⟨P.nd,by simp [T.aU,TL.aU,TL.cX,TL.cG];exact zg (zt b2 (zs z)),λa g b hb e=> ?_⟩;refine aB (List.mem_flatten.mp g) λli I g=> ?_;refine aB (List.mem_map.mp I) λp hp G=> ?_;subst G;simp [T.aU,TL.aU,TL.cX,TL.cG]at hb;rcases P.kind p hp with rfl |⟨_,_,r⟩
     .have:=Y a g;exact a_ hb (λj=>(bx (Q0 _ _ _ _ _ _ _) (AN aI (AN aE (AN bg (AN (AN dm aA) (AN K7 (AN (AN xV aA) j4)))))) (AN aE (AN bg (AN dm (AN j4 (AN xV (AN aI K7)))))) (aH f (aH (zf l1) (aH l2 (aH z (aH (zf e) (aH this (zf j))))))) rfl)) λj=>(fV _ (zt A (zt (zt (zt (zt (zf j) (zf e)) (zs this)) f) (zf l1))))
     .have:=(r.bd a g).2;exact a_ hb (λj=>(fV _ (zt z (zt (zt (zt (zt (zf j) (zf e)) (zs this)) (zf l1)) l2)))) λj=>(fV _ (zt A (zt (zt (zt (zf j) (zf e)) (zs this)) (zf l1))))
    .rcases List.mem_append.mp d1 with h |h
     .exact λN=>hw h (.tail _ N)
     .exfalso;have h':=List.mem_singleton.mp h;have:=Y func.a (by cases func;exact(.head _));rw [h']at this;simp only [T.a]at this;exact fV _ (zt A (zt (zt (zt (zt (zs b2) (zs z)) (zs this)) f) (zf l1)))
   .have d2:(v==1)=false:=by simp [hv]
    rw [d2];dsimp only;exact zi mem s1 _ _ P1 B1 (zt C (zf l1)) (zt f (zf l1)) E (cD λq=>bx (fL _ _) (AN (AN aE (AN aI aA)) (AN (.num 3) aA)) (AN (.num 3) (AN aE aI)) (aH u q) rfl) l.2 (λh N=>hw h (.tail _ N)) λJ c' c x' P' Q H e' M w1 w2=>hK J c' c x' P' Q (k1.m1.trans H) e' M (b3 w1) w2
end
noncomputable def mO:List T->TL
 | []=> .z
 |t::r=> .c t (mO r)
def gj:∀l:List T,(mO l).aZ=br l:=by
 intro zl
 induction zl with
 |nil=>
  exact rfl
 |cons t r a=>
  simp [mO,TL.iz,a]
def mP:∀l:List T,(mO l).aN=l:=by
 intro zl
 induction zl with
 |nil=>
  exact rfl
 |cons t r a=>
  simp [mO,TL.dW,a]
def mQ:∀l:List T,(mO l).ids=(l.map T.ids).flatten:=by
 intro zl
 induction zl with
 |nil=>
  exact(dw _)
 |cons t r a=>
  simp [mO,TL.cG,a]
def tD(x y z:Bool):∀l:List T,(mO l).aP x y z=(l.map λt=>t.aP x y z).flatten:=by
 intro zl
 induction zl with
 |nil=>
  exact(dw _)
 |cons t r a=>
  simp [mO,TL.dY,a]
def FA:∀l:List T,(∀t ∈ l,t.aG=true)->(mO l).aG=true:=by
 intro zl
 induction zl with
 |nil=>
  intro _;simp [mO,TL.je]
 |cons t r a=>
  intro h;simp [mO,TL.kF,h t (by simp),a λx b=>h x (by simp [b])]
def tE:∀l:List T,(∀t ∈ l,t.bJ=true)->(mO l).bJ=true:=by
 intro zl
 induction zl with
 |nil=>
  intro _;simp [mO,TL.cg]
 |cons t r a=>
  intro h;simp [mO,TL.gc,h t (by simp),a λx b=>h x (by simp [b])]
def wX{lo hi:Nat}{ν:Nat->Int}{st:St}:∀l:List T,(∀t ∈ l,Rep lo hi ν st t)->cQ lo hi ν st (mO l):=by
 intro zl
 induction zl with
 |nil=>
  intro _;exact trivial
 |cons t r a=>
  intro h;exact⟨h t (.head _),a λx b=>h x (.tail _ b)⟩
def FD:∀l:List T,(mO l).dZ=(l.map T.dZ).flatten:=by
 intro zl
 induction zl with
 |nil=>
  exact(dw _)
 |cons t r a=>
  simp [mO,TL.EJ,a]
def Fw.up{L:Lay}{lo:Nat}{l:List PX}{st a:St}{M:Nat->Prop}(P:Fw L lo l st)(k:aC M st a)(c:∀i,lo<=i->i<st.length-> ¬M i):Fw L lo l a:={P with par:=λp b=>(P.par p b).up k c}
def Fw.low{L:Lay}{lo a:Nat}{l:List PX}{st:St}(P:Fw L lo l st)(h:a<=lo):Fw L a l st:={P with par:=λp b=>(P.par p b).low h}
def I0.up{L:Lay}{lo:Nat}{l:List (T×List Mk)}{st a:St}{M:Nat->Prop}(P:I0 L lo l st)(k:aC M st a)(c:∀i,lo<=i->i<st.length-> ¬M i):I0 L lo l a:={P with row:=λp b=>⟨(P.row p b).1.up k c,(P.row p b).2⟩}
def I0.low{L:Lay}{lo a:Nat}{l:List (T×List Mk)}{st:St}(P:I0 L lo l st)(h:a<=lo):I0 L a l st:={P with row:=λp b=>⟨(P.row p b).1.low h,(P.row p b).2⟩}
noncomputable abbrev Ar(az:Bool):Int:=if az=true then 256 else 32
structure mR (L:Lay) (lo:Nat) (l:List PX) (rl:List (T×List Mk)) (body LP func:T) (az:Bool) (qa:Nat) (st:St):Prop where
 prs:Fw L lo l st
 rws:I0 L lo rl st
 UH:0<rl.length
 bd:∃a t,body= .mk a t 59 0 0 (mO (rl.map (·.1)))
 lp:∃a t,LP= .mk a t 71 0 0 (mO (l.map (·.t)))
 fn:∃a t,func= .mk a t 27 (Ar az) 0 (.no (.c LP (.no (.e body))))
 rep:Rep lo st.length zn st func
 nd:func.ids.Nodup
 Ov:st[qa]? =some (.list (l.map PX.val))
 qb:lo<=qa/\qa<st.length
def pH(l:List PX):oS (l.map PX.val):=λv a=>by obtain ⟨p,_,rfl⟩:=List.mem_map.mp a;exact⟨_,rfl⟩
def mR.up{L:Lay}{lo:Nat}{l:List PX}{rl:List (T×List Mk)}{body LP func:T}{az:Bool}{qa:Nat}{st b:St}{M:Nat->Prop}(P:mR L lo l rl body LP func az qa st)(k:aC M st b)(a:∀i,lo<=i->i<st.length-> ¬M i):mR L lo l rl body LP func az qa b:=
 {P with prs:=P.prs.up k a,rws:=P.rws.up k a,rep:=(P.rep.keep k a).wide (bP _) k.len,Ov:=k.keep _ _ (a _ P.qb.1 P.qb.2) P.Ov (pH l).hit,qb:=⟨P.qb.1,pG P.qb.2 k.len⟩}
def tF(fields:Int)(n:T):Prop:=∃a t c b,n= .mk a t 62 (262144*(fields-1)) 0 (.no (.e (.mk c b 1 0 0 .z)))
structure lR (L:Lay) (lo:Nat) (l:List PX) (rl:List (T×List Mk)) (body LP func:T) (az:Bool) (qa:Nat) (fields:Int) (mem:List T) (ML cls bcl aF:T) (st:St):Prop where
 lT:mR L lo l rl body LP func az qa st
 R5:∃aL,dI L aL (e9 l++flat rl) st
 As:∀n ∈ mem,n=func\/qu n\/(0<fields/\tF fields n)
 fm:func ∈ mem
 fld:0<fields->∃n ∈ mem,tF fields n
 few:mem.length<=4
 ml:∃a t,ML= .mk a t 71 0 0 (mO mem)
 cl:∃a t a1 t1 a2 t2,cls= .mk a t 61 16 0 (.no (.c (.mk a1 t1 8 0 0 .z) (.no (.d (.mk a2 t2 71 0 0 .z) ML))))
 bc:∃a t a1 t1 a2 t2,bcl= .mk a t 61 16 0 (.no (.no (.no (.d (.mk a1 t1 71 0 0 .z) (.mk a2 t2 71 0 0 .z)))))
 ro:∃a t,aF= .mk a t 40 0 0 (.d bcl cls)
 rep:Rep lo st.length zn st aF
 nd:aF.ids.Nodup
def Rb{x y:Nat}{l:List Nat}(e:x<y)(h:(x::l).Nodup)(n:(y::l).Nodup):(x::y::l).Nodup:=List.nodup_cons.mpr ⟨λz=>(List.mem_cons.mp z).elim (zl e) (List.nodup_cons.mp h).1,n⟩
def Te{x u:Nat}{l:List Nat}(h:x<u)(b:∀y ∈ l,y<x):∀y ∈ x::l,y<u:=λy z=>(List.mem_cons.mp z).elim (λe=>e▸h) λz=>zt (b y z) (zs h)
def Rc{u v:Nat}{l:List Nat}(h:u<=v)(b:∀y ∈ l,y<u):∀y ∈ l,y<v:=λy z=>zt (b y z) h
def Tf{x y u:Nat}{l:List Nat}(h:x<y)(k:y<u)(b:∀y ∈ l,y<x):∀z ∈ x::y::l,z<u:=λz q=>(List.mem_cons.mp q).elim (λe=>e▸zt h (zs k)) λq=>(List.mem_cons.mp q).elim (λe=>e▸k) λq=>zt (b z q) (zt (zs h) (zs k))
def I1{F:List Nat}{m c d g f b1 b2 q ar:Nat}(h:F.Nodup)(G:∀y ∈ F,y<m)(C:m<=c)(b:c<d)(a:d<g)(u:g<f)(D:f<b1)(o:b1<b2)(E:b2<q)(A:q<ar):
  (ar::q::b1::b2::f::c::d::g::F).Nodup:=by
 have f1:=Rc C G;have k:=Rc (zs b) f1;have f3:=Rc (zs a) k;have e2:=Tf a u k;have n3:=Rb a (wY k h) (wY f3 h);have n1:=Rb b (Rb (zt b (zs a)) (wY f1 h) (wY f3 h)) n3;have p:∀y ∈ c::d::g::F,y<f:=λy z=>(List.mem_cons.mp z).elim (λe=>e▸zt b (zt (zs a) (zs u))) (e2 y);have j:=Te D p;have n5:=Rb o (wY j (wY p n1)) (wY (Rc (zs o) j) (wY p n1));have v:=Tf o E j;exact wY (Te A v) (wY v n5)
def fr(v0:Option V)(L:Lay)(az seen:Bool)(fields w:Int)(qa ne qb:Nat)(body func:T)(t:Loc):Loc:=v0::some (.ref L.p)::some (.ref L.b)::some (.bool az)::some (.bool seen)::some (.int fields)::some (.int w)::some (.ref qa)::some (.ref L.k)::some (.int (ne:Nat))::some (.ref qb)::some (.ref body.a)::some (.ref func.a)::t
section
variable{v0:Option V}{L:Lay}{az seen:Bool}{fields w:Int}{qa ne qb n:Nat}{body func:T}{t:Loc}{x:Option V}
def gB:(fr v0 L az seen fields w qa ne qb body func t).set (n+13) x=fr v0 L az seen fields w qa ne qb body func (t.set n x):=rfl
def lU:(fr v0 L az seen fields w qa ne qb body func t)[n+13]? =t[n]? :=rfl
def TZ:(fr v0 L az seen fields w qa ne qb body func t)[1]? =some (some (.ref L.p)):=rfl
def C9:(fr v0 L az seen fields w qa ne qb body func t)[2]? =some (some (.ref L.b)):=rfl
def T3:(fr v0 L az seen fields w qa ne qb body func t)[3]? =some (some (.bool az)):=rfl
def T4:(fr v0 L az seen fields w qa ne qb body func t)[4]? =some (some (.bool seen)):=rfl
def R6:(fr v0 L az seen fields w qa ne qb body func t)[5]? =some (some (.int fields)):=rfl
def R7:(fr v0 L az seen fields w qa ne qb body func t)[6]? =some (some (.int w)):=rfl
def T5:(fr v0 L az seen fields w qa ne qb body func t)[7]? =some (some (.ref qa)):=rfl
def R8:(fr v0 L az seen fields w qa ne qb body func t)[8]? =some (some (.ref L.k)):=rfl
def T6:(fr v0 L az seen fields w qa ne qb body func t)[9]? =some (some (.int (ne:Nat))):=rfl
def Tg:(fr v0 L az seen fields w qa ne qb body func t)[10]? =some (some (.ref qb)):=rfl
def Th:(fr v0 L az seen fields w qa ne qb body func t)[11]? =some (some (.ref body.a)):=rfl
def Ti:(fr v0 L az seen fields w qa ne qb body func t)[12]? =some (some (.ref func.a)):=rfl
end
section
variable{K:KV}{KS:KS}{L:Lay}{aL:Int}{lo qa qb ne:Nat}{l:List PX}{rl:List (T×List Mk)}{body LP func:T}{az seen:Bool}{fields w:Int}{st:St}{v0:Option V}
def I2(B:dI L aL (e9 l++flat rl) st)(U:mR L lo l rl body LP func az qa st)(f:L.b<lo)(q:lo<=st.length)(hf:0<=fields/\fields<3)(hw:0<=w/\w<3)
  (h:∀a9 mem ML cls b5 M c5 f5 c7 E,lR L lo l rl body LP func az qa fields mem ML cls b5 M a9->aq 59 5 [.ref M.a,.int 1] a9 (λk s=>vB (aq 59) C_ (fr v0 L az seen fields w qa ne qb body func [c5,f5,c7,some (.ref cls.a),some (.ref b5.a),none,none,none,none,none,none,none,E,none,none,none,none,none,none,none,none,none,none,none]) s KS)):
  vB (aq 59) I3 (fr v0 L az seen fields w qa ne qb body func [none,none,none,none,none,none,none,none,none,none,none,none,none,none,none,none,none,none,none,none,none,none,none,none]) st KS:=by
 have o:=B.ord;have ml:(e9 l++flat rl).length<=200:=by
  have j1:=U.prs.rA;have j2:=f_ λs hs=>(U.rws.row s hs).2.1;have j3:=U.rws.few;rw [cC];exact cD λk=>bx (jt _ _ _) (AN aE (AN aI (AN (.mulL 11 bg) (AN (.num 200) aA)))) (AN (.num 154) (AN (.mulL 11 bg) (AN (.mulL 11 (.num 3)) (AN aE aI)))) (aH j1 (aH j2 (aH (fJ 11 j3) k))) rfl
 have p6:(e9 l++flat rl).length<900000:=Am ml (by decide);have fb:=U.rep.bd;have Y:=mw f o _ q (by first |assumption |exact bP _);rw [I3,ah,cL,fQ,cy];refine⟨bI rfl,?_⟩;simp only [gB,cA];dsimp only [aa,ah,iu,C4];dsimp only [cy,aW,bV];refine⟨by decide,?_⟩;rw [Fb];have eI:[V.int 0,.int 1,.int 2]=[(0:Int),1,2].map V.int:=rfl;have p5:lo<=(st++ [O.list []]).length:=by simp;exact dP q
 have k0:aC (M0 L) st (st++ [O.list []]):=aC.app _ _;rw [eI];refine Fz (d:=47) (n1:=st.length) (lo:=st.length+1) (L:=L) (ms:=e9 l++flat rl) (mq:=st.length) (func:=func) (w:=w) (m:=(fr v0 L az seen fields w qa ne qb body func [some (.ref st.length),none,none,none,none,none,none,none,none,none,none,none,none,none,none,none,none,none,none,none,none,none,none,none])) rfl rfl rfl rfl rfl (zb rfl) (by first |assumption |exact dP (zt f q)) (by first |assumption |exact bP _) Y (λx H=>(fb x H).2) U.nd (by assumption) [0,1,2] [] (st++ [O.list []]) aL none ⟨λk h=>by(cases h),(by decide)⟩ (B.app _) PK al aD (bP _) (by decide) (λh=>by cases h) λs1 D mem x P1 B1 k1 e1 n1 e5 k=> ?_;simp only [gB,cB,cA];have l1:=k1.len;have o1:lo<=s1.length:=by exact iA (by assumption) l1
 simp only [cC,cV,cY]at l1;have b3:=k0.m1.trans k1;have b0:∀i,lo<=i->i<st.length-> ¬M1 L st.length i:=λi h1 h2 z=>z.elim (mw f o i h1 h2) λe=>(fV _ (zt h2 (zf e)));have J:∀v j g E,aC (M1 L st.length) st v->dI L j (e9 l++flat rl) v->v[st.length]? =some (.list (br g))->st.length<v.length->(∀n ∈ g,n=func\/((qu n\/(0<fields/\tF fields n))/\Rep (st.length+1) v.length zn v n))->((g.map T.ids).flatten).Nodup->func ∈ g->(0<fields->∃n ∈ g,tF fields n)->g.length<=4->
   vB (aq 59) (.q (.a 15 (.list (.q .o (.W 41 2 127) .o (.v 42 (.l 2) .lz) (.e (.L 42 2 13))))) (.a 16 (.M 40 2 2 128 (.l 15) (.g 49) (.n 0))) (.a 17 (.M 40 2 2 129 (.list (.q .o .o .o (.v 42 (.l 2) .lz) (.e (.v 42 (.l 2) .lz)))) (.g 49) (.n 0))) (.ex (.v 5 (.N 40 2 58 0 (.list (.d (.l 17) (.l 16))) 0 0) (.n 1))) C_) (fr v0 L az seen fields w qa ne qb body func [some (.ref st.length),x,none,none,none,none,none,none,none,none,none,none,E,none,none,none,none,none,none,none,none,none,none,none]) v KS:=by
  intro v j g E k2 B2 e2 l2 kd2 Rd g0 f8 n2;have rm:∀s',aC (M0 L) v s'->cQ lo s'.length zn s' (mO g):=λs' k'=>wX g λn u=>by
   rcases kd2 n u with rfl |⟨_,r⟩
   .exact(U.rep.keep (k2.trans k'.m1) b0).wide (bP _) (by have:=k2.len;have:=k'.len;exact zt (zs l2) this)
   .exact(r.up o (by first |assumption |exact dP (zt f q)) k').wide (by first |assumption |exact dP q) (bP _)
  rw [ah,cL,fQ,aW,bV,aW,cJ];dsimp only [vL,vE,lU,C9,bM];refine eB B2 f (by first |assumption |exact zt q (zs l2)) (by assumption) λs3 a1 g1 k3 B3 r3=> ?_;have l3:=k3.len;have o3:lo<=s3.length:=by first |exact iA (by assumption) l3 |exact zt (zt q (zs l2)) l3
  have q3:=r3.bd a1 (.head _);refine⟨bI rfl,?_⟩;refine tC (lo:=lo) (ai:= .z) rfl B3 f (by assumption) trivial (by assumption) λs4 a2 g2 k4 B4 r4=> ?_;have l4:=k4.len;have o4:lo<=s4.length:=by exact iA (by assumption) l4
  have q4:=r4.bd a2 (.head _);have e4:=(k3.trans k4).keep _ _ Y e2 (gi _);refine kO B4 f q (by rw [gj];exact e4) (rm s4 (k3.trans k4)) (by assumption) λs5 a3 g3 k5 B5 r5=> ?_;have l5:=k5.len;have o5:lo<=s5.length:=by exact iA (by assumption) l5
  have q5:=r5.bd a3 (.head _);refine⟨bI rfl,?_⟩;simp only [gB,cB,cA];rw [aa,ah,cL,cJ];dsimp only [vL,vE,lU,C9,cF,bM,kG,rR];refine bR (lo:=lo) (ai:= .no (.c (.mk a1 (j+1) 8 0 0 .z) (.no (.d (.mk a2 (j+1+1) 71 0 0 .z) (.mk a3 (j+1+1+1) 71 0 0 (mO g)))))) rfl B5 f (by assumption) ⟨(r3.up o f k4).up o f k5,r4.up o f k5,r5,trivial⟩ (by assumption) λs6 ac g6 k6 B6 r6=> ?_;have l6:=k6.len;have o6:lo<=s6.length:=by exact iA (by assumption) l6
  have q6:=r6.bd ac (.head _);simp only [gB,cB,cA];rw [aa,ah,cL,cJ];dsimp only [vL,vE,C9,kG,rR];refine⟨bI rfl,?_⟩;refine tC (lo:=lo) (ai:= .z) rfl B6 f (by assumption) trivial (by assumption) λs7 b1 g7 k7 B7 r7=> ?_;have l7:=k7.len;have o7:lo<=s7.length:=by exact iA (by assumption) l7
  have q7:=r7.bd b1 (.head _);refine⟨bI rfl,?_⟩;refine tC (lo:=lo) (ai:= .z) rfl B7 f (by assumption) trivial (by assumption) λs8 b2 g8 k8 B8 r8=> ?_;have l8:=k8.len;have o8:lo<=s8.length:=by exact iA (by assumption) l8
  have q8:=r8.bd b2 (.head _);refine⟨bI rfl,?_⟩;refine bR (lo:=lo) (ai:= .no (.no (.no (.d (.mk b1 (j+1+1+1+1+1) 71 0 0 .z) (.mk b2 (j+1+1+1+1+1+1) 71 0 0 .z))))) rfl B8 f (by assumption) ⟨r7.up o f k8,r8,trivial⟩ (by assumption) λs9 ab g9 k9 B9 r9=> ?_;have l9:=k9.len;have o9:lo<=s9.length:=by exact iA (by assumption) l9
  have q9:=r9.bd ab (.head _);simp only [gB,cB,cA];rw [aa,ah,gy,cJ];dsimp only [vL,vE,lU,C9,cF,bM,I4];refine⟨bI rfl,?_⟩;have e3:=((r6.up o f k7).up o f k8).up o f k9;refine bR (lo:=lo) (ai:= .d (.mk ab _ 61 16 0 _) (.mk ac _ 61 16 0 _)) rfl B9 f (by assumption) ⟨r9,e3,trivial⟩ (by assumption) λa6 ar e0 LN d3 f2=> ?_;have c6:=LN.len;have p7:lo<=a6.length:=by exact iA (by assumption) c6
  have f1:=((((((k3.trans k4).trans k5).trans k6).trans k7).trans k8).trans k9).trans LN;refine h a6 g _ _ _ _ _ _ _ _ ⟨U.up (k2.trans f1.m1) b0,⟨_,d3⟩,λn u=>(kd2 n u).imp id λx=>x.1,g0,f8,n2,⟨_,_,rfl⟩,⟨_,_,_,_,_,_,rfl⟩,⟨_,_,_,_,_,_,rfl⟩,⟨_,_,rfl⟩,f2,?_⟩;have hF:∀y ∈(g.map T.ids).flatten,y<v.length:=λy hy=>by
   refine aB (List.mem_flatten.mp hy) λli Q hy=> ?_;refine aB (List.mem_map.mp Q) λp hp I=> ?_;subst I;rcases kd2 p hp with rfl |⟨_,r⟩
   .have:=(fb y hy).2;exact zt this (zs l2)
   .exact(r.bd y hy).2
  simp only [T.aU,TL.aU,TL.cX,TL.cG,mQ,fK,dw,Dc];exact I1 Rd hF g1 (gV q3.2 g2) (pG q4.2 g3) (gV q5.2 g6) (gV q6.2 g7) (gV q7.2 g8) (gV q8.2 g9) (gV q9.2 e0)
 have N:∀n ∈ mem,n=func\/((qu n\/(0<fields/\tF fields n))/\Rep (st.length+1) s1.length zn s1 n):=λn u=>(P1.kind n u).imp id λ⟨a,_,c⟩=>⟨.inl a,c⟩;have a7:=e5 (by simp;exact or3 hw.1 hw.2);rw [aa,ah];refine aV (decide (fields>0)) (λK' h'=>fU rfl rfl h') ?_;by_cases G:fields>0
 .rw [if_pos (by simp [G]),ah,cL,cJ];dsimp only [vL,vE,C9,BI];refine⟨bI rfl,?_⟩;refine bR (lo:=st.length+1) (ai:= .z) rfl B1 (by first |assumption |exact dP (zt f q)) (by assumption) trivial (by assumption) λsa av ga ka Ba ra=> ?_;have la:=ka.len;have A:=ra.bd av (.head _);simp only [gB,cB,cA];have ea:=ka.keep _ _ Y e1 (gi _);rw [aa,ah,gy,iV];simp only [bq,lU,bM,ea];rw [cJ];simp only [cy,aW,bq,bV,iU,j8,fQ,lU,C9,R6,cF,bM,wU,wV,zX,MQ];refine⟨by simp only [cV,cY,big];exact bI rfl,⟨(Dd (Int.not_le.mp λk=>dJ (fP 0) (.num 262144) (.num (-9223372036854775808)) k rfl) (Int.not_le.mp λk=>dJ (fP 0) (.num 9223372036854775808) (.num 262144) k rfl)),(Dd (Int.not_le.mp λk=>dJ (fP _) (AI jb (.sub bH ck)) (AI bH (.num (-9223372036854775808))) (bE hf.1 k) rfl) (Int.not_le.mp λk=>dJ (fP _) (AI (AI bH ck) (.num 9223372036854775808)) (AI (.num 3) (.sub bH ck)) (bE hf.2 k) rfl))⟩,?_⟩;refine bR (lo:=st.length+1) (ai:= .no (.e (.mk av _ 1 0 0 .z))) rfl Ba (by first |assumption |exact dP (zt f q)) (by first |assumption |exact zt A.1 (zs A.2)) ⟨ra,trivial⟩ (by assumption) λsb af gb kb Bb rb=> ?_;have lb:=kb.len;have a8:=rb.bd af (.head _);have eb:=kb.keep _ _ Y ea (gi _);simp only [eb];refine⟨by simp only [bN,big];exact zt (za n1 1) (zr 999996),?_⟩;rw [aa,au,aa];have ks:∀(s:St) (y:O),aC (·=st.length) s (s.set st.length y):=λs y=>aC.set rfl;have ls:∀(s:St) (i:Nat),st.length+1<=i->i<s.length-> ¬i=st.length:=λs i h1 k e=>(fV _ (zt h1 (ze e)));have b4:=ka.trans kb;refine J _ _ (mem++ [.mk af (D+1+1) 62 (262144*(fields-1)) 0 (.no (.e (.mk av (D+1) 1 0 0 .z)))]) _ ((b3.trans b4.m1).trans (aC.set (.inr rfl))) (Bb.other Y eb (gi _)) (by rw [bh eb];simp [T.a]) (by simp;exact zt a8.1 (zs a8.2)) (λn u=> ?_) ?_ (by simp [a7]) (λk=>⟨_,ry _ (List.mem_singleton.mpr rfl),⟨_,_,_,_,rfl⟩⟩) (by simp;exact n1)
  .rcases List.mem_append.mp u with u |u
   .exact(N n u).imp id λ⟨a,r⟩=>⟨a,((r.up o (by first |assumption |exact dP (zt f q)) b4).keep (ks _ _) (ls _)).wide (bP _) (by simp)⟩
   .rw [List.mem_singleton.mp u];exact .inr ⟨.inr ⟨G,⟨_,_,_,_,rfl⟩⟩,(rb.keep (ks _ _) (ls _)).wide (bP _) (by simp)⟩
  .simp only [List.map_append,wA,cP,qg,iX,wC,fK,nc];refine⟨P1.nd,by simp [T.aU,TL.aU,TL.cX,TL.cG];exact zg (zt A.2 (zs gb)),λa H b hb e=> ?_⟩;refine aB (List.mem_flatten.mp H) λli Q H=> ?_;refine aB (List.mem_map.mp Q) λp hp I=> ?_;subst I;simp [T.aU,TL.aU,TL.cX,TL.cG]at hb;rcases N p hp with rfl |⟨_,r⟩
   .have:=(fb a H).2;exact a_ hb (λC=>(fV _ (zt A.1 (zt (zt (zt (zt (zs A.2) (zs gb)) (zf C)) (zf e)) (zs this))))) λC=>(fV _ (zt ga (zt (zt (zt (zt (zf C) (zf e)) (zs this)) (zr _)) l1)))
   .have:=(r.bd a H).2;exact a_ hb (λC=>fV _ (zt this (zt (zs ga) (zt (zs A.2) (zt (zs gb) (zf (e.trans C))))))) λC=>fV _ (zt this (zt (zs ga) (zf (e.trans C))))
 .rw [if_neg (by simp [G]),au,aa];exact J s1 D mem _ b3 B1 e1 (by assumption) N P1.nd a7 (λh=>absurd h G) (by first |assumption |exact dP n1)
end
noncomputable def u9:List Int:=[0,1,0,0,6,2,0,0,6,1,4,1,2,1,0,0,1,0,0,3,1,3,0,1,0,0,0,0]
def FE:bU 57= .tup (u9.map V.int):=rfl
section
variable{K:KV}{KS:KS}{L:Lay}{aL:Int}{lo qa qb ne:Nat}{l:List PX}{rl:List (T×List Mk)}{body LP func:T}{az seen:Bool}{fields w:Int}{st:St}{v0:Option V}
def ju{C:Nat}{m:Loc}{K:KV}{n:Int}{ms:List Mk}(B:dI L aL ms st)(b:m[1]? =some (some (.ref L.p)))(c:0<n)(h:∀v a,0<=v->v<n->dI L aL ms a->aC (M0 L) st a->a.length=st.length->K (.int v) a):vE (aq (C+1)) (.V 39 1 n) m st K:=by
 simp only [bq,bV,cJ,cy,aW,b];exact fH B c h
def FF(B:dI L aL [] st)(d:st.length=L.b+1)(hf:0<=fields/\fields<3)(hw:0<=w/\w<3)
  (h:∀q b2 qa qb (l:List PX) rl body LP func,dI L b2 (e9 l++flat rl) q->mR L (L.b+1) l rl body LP func az qa q->L.b+1<=q.length->(let ne:=(e9 l).length;vB (aq 59) I3 (fr v0 L az seen fields w qa ne qb body func [none,none,none,none,none,none,none,none,none,none,none,none,none,none,none,none,none,none,none,none,none,none,none,none]) q KS)):
  vB (aq 59) FG [v0,some (.ref L.p),some (.ref L.b),some (.bool az),some (.bool seen),some (.int fields),some (.int w),none,none,none,none,none,none,none,none,none,none,none,none,none,none,none,none,none,none,none,none,none,none,none,none,none,none,none,none,none,none] st KS:=by
 have o:=B.ord;dsimp only [FG,ah,cL,ig,C4,aW];refine ju B rfl (by decide) λv s1 d2 v3 B1 k1 l1=> ?_;refine⟨(CD (Int.not_le.mp λc=>dJ (fP _) (AI jb bH) (AI bH (.num (-4611686018427387904))) (bE d2 c) rfl) (Int.not_le.mp λc=>dJ (fP _) (AI (AI bH ck) (.num 4611686018427387904)) (AI (.num 3) bH) (bE v3 c) rfl)),?_⟩;have c9:=O8 (zt (zf d) (zf l1)) o;refine Fx rfl rfl rfl (dP (zt (zf d) (zf l1))) (bP _) c9 (eY 0 v 1) [] (s1++ [O.list []]) aL ⟨λc h=>by(cases h),λc h=>by(cases h),by simp,(gP _)⟩ (B1.app _) PK aD (by rw [fz];simp;exact Int.not_lt.mp λc=>dJ (fP _) (AI (AI bH ck) (AI (.num 2) ck)) (AI (.num 3) bH) (bE v3 c) rfl) λs2 b3 l P2 B2 k2 e2=> ?_;have l2:=k2.len;simp only [cC,cV,cY]at l2;refine rQ aa ?_;refine rQ ah ?_;simp only [cL,bq,bV,jH,cF,bM,B2.vM,EG,cB,cA];refine⟨by decide,?_⟩;refine rQ aa ?_;refine rQ ah ?_;simp only [cL,bq,jh,cF,bM,B2.marks,bN,cB,cA];rw [aa,ah,cL,ig,C4,aW,j8,bV];have c0:=P2.low (dP (zt (zf d) (zf l1)));refine ju B2 rfl (by decide) λv I w0 w3 B3 k3 l3=> ?_;refine⟨(CD (Int.not_le.mp λc=>dJ (fP _) (AI jb (AI ck bH)) (AI bH (.num (-4611686018427387904))) (bE w0 c) rfl) (Int.not_le.mp λc=>dJ (fP _) (AI (AI bH ck) (.num 4611686018427387904)) (AI (.num 3) (AI ck bH)) (bE w3 c) rfl)),?_⟩;have d5:=O8 (zt (zt (zt (zt (zf d) (zf l1)) (zr _)) l2) (zf l3)) o;have pm:=P2.rA;have er:(1+v).toNat<=3/\1<=(1+v).toNat:=⟨Int.toNat_le.mpr (Int.le_trans (Int.add_le_add_left (Int.le_sub_one_of_lt w3) 1) (by decide)),Int.lt_toNat.mpr (yN (by decide) (Int.le_add_of_nonneg_right w0))⟩;refine Fy rfl rfl rfl (dP (zt (zt (zt (zt (zf d) (zf l1)) (zr _)) l2) (zf l3))) (bP _) d5 (zt pm (zr 46)) (eY 0 (1+v) 1) [] (I++ [O.list []]) b3 ⟨λc h=>by(cases h),by simp,(gP _)⟩ (by simpa [flat]using B3.app _) PK aD (by rw [fz];simp;exact Int.not_lt.mp λc=>dJ (fP _) (AI (AI bH ck) (AI (.num 3) ck)) (AI (.num 3) (AI ck bH)) (bE w3 c) rfl) λs4 n rl P4 B4 k4 e4 n4=> ?_;have H:=k4.len;simp only [cC,cV,cY]at H;have f:L.b<L.b+1:=(bP _);have a3:=P4.low (dP (zt (zt (zt (zt (zf d) (zf l1)) (zr _)) l2) (zf l3)));have m2:∀i,L.b+1<=i->i<s2.length-> ¬M1 L I.length i:=λi h1 h2 z=>z.elim (mw f o i h1 h2) λe=>(fV _ (zt h2 (zt (zf l3) (zf e))));have a2:=(k3.trans (aC.app I [O.list []])).m1.trans k4;have P24:=c0.up a2 m2;have b8:=a2.keep _ _ (m2 _ (zt (zf d) (zf l1)) (bK λc=>bx (fL _ _) (AN (AN aE (AN oW aA)) aI) (AN aI aE) (aH l2 c) rfl)) e2 (pH l).hit;have d0:=f_ λs hs=>(P4.row s hs).2.1;have b9:=P4.few;have rA:(e9 l++flat rl).length<=200:=by rw [cC];exact cD λc=>bx (jt _ _ _) (AN aE (AN bg (AN (.mulL 11 aI) (AN (.num 200) aA)))) (AN (.num 154) (AN (.mulL 11 aI) (AN (.mulL 11 (.num 3)) (AN aE bg)))) (aH pm (aH d0 (aH (fJ 11 b9) c))) rfl
 rw [aa,ah,cL,cJ];dsimp only [vL,vE];refine yG B4 f (zt (zt (zt (zt (zf d) (zf l1)) (zr _)) l2) (zf l3)) (by rw [gj];exact e4) (wX _ λt ht=>by obtain ⟨s,hs,rfl⟩:=List.mem_map.mp ht;exact(a3.row s hs).1.rep) (zt (za rA 1) (bI rfl)) λs5 x g5 k5 B5 r5=> ?_;have l5:=k5.len;have k:=r5.bd x (.head _);have m5:∀i,L.b+1<=i->i<s4.length-> ¬M0 L i:=mw f o;have P25:=P24.up k5 m5;have P45:=a3.up k5 m5;have N:=k5.keep _ _ (m5 _ (zt (zf d) (zf l1)) (bK λc=>bx (oJ _ _ _ _) (AN (AN aE (AN oW aA)) (AN aI (AN (AN bg (AN oW aA)) dm))) (AN aI (AN bg (AN dm aE))) (aH l2 (aH (zf l3) (aH H c))) rfl)) b8 (pH l).hit;simp only [cB,cA];rw [aa,ah,cL,cJ,aW];refine aj rfl _ ?_;rw [aW,iU,jV,aW,bV,aW,fQ,aW,bV,aW,cJ,aW];refine aj rfl _ ?_;rw [aW,ig,h_];refine aj rfl _ ?_;simp only [N];refine dQ PX.val (λp=>some (V.ref p.t.a)) l (Src.of N) (by have:=P2.few;exact zt (za this 1) (bI rfl)) (λp g E pr K h=> ?_) (λp g w' c3 E pr K h=> ?_) λs6 p6 e6=> ?_
 .rw [nX];exact h E (bS _)
 .cases c3;exact⟨(Int.not_lt.mp λc=>dJ (fP 0) (AI jb ck) jb c rfl),(Int.not_le.mp λc=>dJ (fP 0) (.num 4611686018427387904) jb c rfl),h E (bS _)⟩
 have ef:List.filterMap (λp:PX=>some (V.ref p.t.a)) l=br (l.map (·.t)):=by simp [List.filterMap_eq_map']
 rw [ef]at e6;have C:=p6.length_le;have k6:aC (M0 L) s5 s6:=(aC.pre p6).mono λc h=>h.elim;have B6:dI L (n+1) (e9 l++flat rl) s6:=by
  refine ez p6 λz c1=> ?_;subst c1;exact B5.app z
 have u:∀i,L.b+1<=i->i<s5.length-> ¬M0 L i:=mw f o;have P26:=P25.up k6 u;have P46:=P45.up k6 u;have r6:=r5.up o f k6;refine kO B6 f (zt k.1 (zs k.2)) (by rw [gj];exact e6) (wX _ λt ht=>by obtain ⟨p,g,rfl⟩:=List.mem_map.mp ht;exact(P26.par p g).rep) (zt (za rA 1) (bI rfl)) λs7 Q g7 k7 B7 r7=> ?_;have l7:=k7.len;have q7:=r7.bd Q (.head _);rw [aW,bV,aW];refine aj rfl _ ?_;refine⟨by simp only [cV,cY,big];exact bI rfl,?_⟩;refine rK az (aj rfl) ?_;have eg:∀(m:Loc) (st:St) (K':KV),K' (.int (Ar az)) st->vE (aq 59) (if az=true then IE.g 3 else IE.g 50) m st K':=λm st K' h=>by
  cases az
  .rw [if_neg (by decide),iU,wZ];exact h
  .rw [if_pos rfl,iU,sY];exact h
 refine eg _ _ _ ?_;have d3:=r6.up o f k7;refine bR (ai:= .no (.c (.mk Q (n+1+1) 71 0 0 (mO (l.map (·.t)))) (.no (.e (.mk x (n+1) 59 0 0 (mO (rl.map (·.1)))))))) rfl B7 f (zt q7.1 (zs q7.2)) ⟨r7,d3,trivial⟩ (zt (za rA 1) (bI rfl)) λs8 U g8 k8 B8 r8=> ?_;have l8:=k8.len;have Y:=r8.bd U (.head _);have M:=k7.trans k8;have m6:∀i,L.b+1<=i->i<s6.length-> ¬M0 L i:=mw f o;refine h s8 _ s1.length I.length l rl (.mk x _ 59 0 0 _) (.mk Q _ 71 0 0 _) (.mk U _ 27 _ 0 _) B8 ⟨P26.up M m6,P46.up M m6,by rw [n4];simp [fz];exact Int.not_le.mp λc=>dJ (fP _) (AI jb (AI ck bH)) (AI bH jb) (bE w0 c) rfl,⟨_,_,rfl⟩,⟨_,_,rfl⟩,⟨_,_,rfl⟩,r8,?_,?_,(zt (zf d) (zf l1)),(zt (zt (zt (za (ze l1) 1) (za (ze d) 1)) (za Y.1 1)) Y.2)⟩ (zt Y.1 (zs Y.2))
 .have hB:∀y ∈((l.map λp=>p.t.ids).flatten),y<s2.length/\s1.length+1<=y:=λy j=>by
   refine aB (List.mem_flatten.mp j) λli J j=> ?_;refine aB (List.mem_map.mp J) λp g D=> ?_;subst D;exact⟨((P2.par p g).rep.bd y j).2,((P2.par p g).rep.bd y j).1⟩
  have hC:∀y ∈((rl.map λs=>s.1.ids).flatten),y<s4.length/\I.length+1<=y:=λy j=>by
   refine aB (List.mem_flatten.mp j) λli J j=> ?_;refine aB (List.mem_map.mp J) λp g D=> ?_;subst D;exact⟨((P4.row p g).1.rep.bd y j).2,((P4.row p g).1.rep.bd y j).1⟩
  have nB:=P2.nd;have nC:=P4.nd;have e1:((l.map (·.t)).map T.ids)=l.map λp=>p.t.ids:=by simp
  have e2:((rl.map (·.1)).map T.ids)=rl.map λs=>s.1.ids:=by simp
  simp only [T.aU,TL.aU,TL.cX,TL.cG,mQ,e1,e2];generalize (l.map λp=>p.t.ids).flatten=F at*;generalize (rl.map λs=>s.1.ids).flatten=G at*;have x1:U ∉ F:=λh=>by have:=hB _ h;exact bx (Q0 _ _ _ _ _ _ _) (AN aE (AN (AN aI (AN oW aA)) (AN bg (AN dm (AN j4 (AN (AN xV aA) (AN K7 aA))))))) (AN aI (AN bg (AN dm (AN j4 (AN xV (AN K7 aE)))))) (aH (zf l3) (aH H (aH l5 (aH C (aH l7 (aH g8 this.1)))))) rfl
  have x2:U ∉ G:=λh=>by have:=hC _ h;exact fV _ (zt k.2 (zt (zt (zt (zt C l7) (zs g8)) (zs this.1)) g5))
  have x3:Q ∉ F:=λh=>by have:=hB _ h;exact bx (Pe _ _ _ _ _ _) (AN aE (AN (AN aI (AN oW aA)) (AN bg (AN dm (AN j4 (AN xV aA)))))) (AN aI (AN bg (AN dm (AN j4 (AN xV aE))))) (aH (zf l3) (aH H (aH l5 (aH C (aH g7 this.1))))) rfl
  have x4:Q ∉ G:=λh=>by have:=hC _ h;exact fV _ (zt k.2 (zt (zt (zt C g7) (zs this.1)) g5))
  have x5:x ∉ F:=λh=>by have:=hB _ h;exact fV _ (zt this.1 (zt (zt (zt (zf l3) (zr _)) H) g5))
  have x6:x ∉ G:=λh=>by have:=hC _ h;exact fV _ (zt this.1 g5)
  have x7:∀a ∈ F,∀b ∈ G,¬a=b:=λa A b hb e=>by have j1:=hB _ A;have j2:=hC _ hb;exact fV _ (zt j1.1 (zt (zt (zf l3) (zs j2.2)) (zf e)))
  have x8:∀a ∈ F,¬a=x:=λa A e=>x5 (e▸A);simp only [fK,Dc,lG,nc,List.mem_cons,List.mem_append,not_or,x1,x2,x3,x4,x6,nB,nC,not_false_eq_true,true_and,ne_eq]
  repeat' apply And.intro
  .exact Nat.ne_of_gt (gV q7.2 g8)
  .exact Nat.ne_of_gt (gV (pG k.2 (zt C l7)) g8)
  .trivial
  .exact Nat.ne_of_gt (pG k.2 (zt C g7))
  .trivial
  .exact λa A b hb=>hb.elim (λe=>by rw [e];exact x8 a A) (x7 a A b)
 .have g4:=u;exact(k6.trans M).keep _ _ (u _ (zt (zf d) (zf l1)) (zt (zt (zt (za (ze l1) 1) (za (ze d) 1)) (za k.1 1)) k.2)) N (pH l).hit
def De{c:List Int}(bW:c.length<=63)
  (h:∀(L:Lay) (l:List PX) rl body LP func az qa qb fields (w:Int) (seen:Bool) mem A cls g b j k t o u,lR L (L.b+1) l rl body LP func az qa fields mem A cls g b j->0<=fields/\fields<3->0<=w/\w<3->L.b+1<=j.length->aq 59 5 [.ref b.a,.int 1] j (λf s=>let ne:=(e9 l).length;let v0:=some (.ref 0);vB (aq 59) C_ (fr v0 L az seen fields w qa ne qb body func [k,t,o,some (.ref cls.a),some (.ref g.a),none,none,none,none,none,none,none,u,none,none,none,none,none,none,none,none,none,none,none]) s (oM K))):
  aq 60 59 [.ref 0] [.iw (c.map V.int)] K:=by
 refine call_in MR [some (.ref 0),none,none,none,none,none,none,none,none,none,none,none,none,none,none,none,none,none,none,none,none,none,none,none,none,none,none,none,none,none,none,none,none,none,none,none,none] ?_ (by decide) rfl rfl rfl;dsimp only [MR,ah,cL,j8,PU,iU,FE];refine⟨(zb rfl),?_⟩;dsimp only [ig,L0,Ll];refine aj rfl _ ?_;dsimp only [vE];have g0:([O.iw (c.map V.int)]++ [O.list (u9.map V.int)])[0]? =some (O.iw (c.map V.int)):=rfl;simp only [cV,cY,Dc,dw];refine⟨⟨(Int.not_lt.mp λf=>dJ (fP 0) (AI (.num 28) ck) jb f rfl),(Int.not_le.mp λf=>dJ (fP 0) (.num 4611686018427387904) (.num 28) f rfl)⟩,?_⟩;have e2:(List.take (28:Int).toNat (c.map V.int)).reverse=((c.take 28).reverse).map V.int:=by
  rw [show(28:Int).toNat=28 from rfl,<-List.map_take,<-List.map_reverse]
 have g2:([O.iw (c.map V.int),O.list (u9.map V.int),O.list (List.take (28:Int).toNat (c.map V.int))])[2]? =some (O.list (List.take (28:Int).toNat (c.map V.int))):=rfl;simp only [g2];refine rQ e2 ?_;refine dQ V.int (λi=>some (V.int i)) _ (src:=some (2,List.take (28:Int).toNat (c.map V.int))) g2 (by simp;exact zt (Nat.succ_le_succ (Nat.min_le_left _ _)) (zb rfl)) (λi hi q p K h=> ?_) (λi hi v J q p K h=> ?_) λa D e1=> ?_
 .dsimp only [nX];exact h q (bS _)
 .cases J;exact h q (bS _)
 have e3:((c.take 28).reverse).filterMap (λi=>some (V.int i))=((c.take 28).reverse).map V.int:=by simp [List.filterMap_eq_map']
 rw [e3]at e1;have l1:=D.length_le;simp only [cV,cY]at l1 e1;have Q:a[1]? =some (O.list (u9.map V.int)):=ak D rfl;simp only [E7,two,fR,cV,cY,Q,e1];refine⟨by simp [u9,big];exact zt (C3 (Nat.min_le_left _ _) _) (zb rfl),?_⟩;rw [<-List.map_append];simp only [cB,cA];rw [aa,ah,cL,Ff,aW,bV,aW,fQ,cy];refine⟨by simp only [cY,big];exact bI rfl,?_⟩;rw [cy];refine⟨rfl,?_⟩;simp only [cB,cA,cC,cV,cY];refine rQ aa ?_;generalize N:u9++(c.take 28).reverse=d;have C:dI ⟨a.length,a.length+1,a.length+1+1⟩ 0 [] (a++ [O.list (d.map V.int)]++ [O.list []]++ [O.dict (List.zip [5,87] [V.int 0,V.ref (a.length+1)])]):=by
  refine⟨⟨d,?_⟩,?_,?_,λm z=>(by cases z),List.Pairwise.nil,⟨List.Pairwise.nil,λm z=>(by cases z)⟩,⟨by show a.length<a.length+1+1;exact zr 1,by show a.length+1<a.length+1+1;exact bP _,by show a.length≠a.length+1;exact zl (bP _)⟩⟩
  .exact bQ (bQ aD)
  .have e:a.length+1+1=(a++ [O.list (d.map V.int)]++ [O.list []]).length:=by simp
   show(_++ [O.dict _])[a.length+1+1]? =_;rw [e];exact aD
  .have e:a.length+1=(a++ [O.list (d.map V.int)]).length:=by simp
   show((_++ [O.list []])++ [O.dict _])[a.length+1]? =_;rw [e];exact bQ aD
 have n:(a++ [O.list (d.map V.int)]++ [O.list []]++ [O.dict (List.zip [5,87] [V.int 0,V.ref (a.length+1)])]).length=a.length+1+1+1:=by simp
 generalize (a++ [O.list (d.map V.int)]++ [O.list []]++ [O.dict (List.zip [5,87] [V.int 0,V.ref (a.length+1)])])=t0 at C n ⊢;dsimp only [ah,cL,d_];refine ju C rfl (by decide) λx3 t1 a1 M I k1 n1=> ?_;dsimp only [vE,j5,b_,cB,cA];rw [aa,ah,cL,d_];refine ju I rfl (by decide) λx4 t2 a1 M B2 k2 n2=> ?_;dsimp only [vE,j5,b_,cB,cA];rw [aa,ah,cL];refine ju B2 rfl (by decide) λx5 t3 b1 b2 H k3 n3=> ?_;dsimp only [aa,ah,cL];refine ju H rfl (by decide) λx6 E y x B4 k4 n4=> ?_;refine FF B4 (by show E.length=a.length+1+1+1;exact iW (cD λf=>bx (Pe _ _ _ _ _ _) (AN aI (AN bg (AN dm (AN j4 (AN xV (AN (AN (AN (AN aE aA) aA) aA) aA)))))) (AN (AN aE (.num 3)) (AN aI (AN bg (AN dm (AN j4 xV))))) (aH (ze n) (aH (ze n1) (aH (ze n2) (aH (ze n3) (aH (ze n4) f))))) rfl) (cD λf=>bx (Pe _ _ _ _ _ _) (AN (AN aE (.num 3)) (AN aI (AN bg (AN dm (AN j4 (AN xV aA)))))) (AN aI (AN bg (AN dm (AN j4 (AN xV (AN (AN (AN aE aA) aA) aA)))))) (aH (zf n) (aH (zf n1) (aH (zf n2) (aH (zf n3) (aH (zf n4) f))))) rfl)) ⟨b1,b2⟩ ⟨y,x⟩ λj a0 qa qb l rl body LP func B U G=> ?_;refine I2 B U (Df _) G ⟨b1,b2⟩ ⟨y,x⟩ λY mem A cls g b k t o u X=> ?_;exact h _ l rl body LP func _ qa qb x5 x6 _ mem A cls g b Y k t o u X ⟨b1,b2⟩ ⟨y,x⟩ (by have:=(X.rep.bd b.a (by cases b;exact(.head _)));exact zt this.1 (zs this.2))
end
mutual
theorem bT:∀(t:T) {x y:T},x ∈ y.pre->y ∈ t.pre->x ∈ t.pre
 | .mk a at_ k f s ai,x,y=>λc b=>by
  rw [T.qR]at b ⊢;refine a_ (List.mem_cons.mp b) (λd=> ?_) λb=> ?_
  any_goals subst d
  .rw [T.qR]at c;exact c
  .exact gh _ (oi ai c b)
theorem oi:∀(k:TL) {x y:T},x ∈ y.pre->y ∈ k.jG->x ∈ k.jG
 | .z,x,y=>λb a=>by rw [TL.wD]at a;cases a
 | .no r,x,y=>λb a=>by rw [TL.jW]at a ⊢;exact oi r b a
 | .c t r,x,y=>λb a=>by
  rw [TL.jX]at a ⊢;refine a_ (List.mem_append.mp a) (λa=> ?_) λa=> ?_
  .exact nT _ (bT t b a)
  .exact ry _ (oi r b a)
end
def pI(t:T):t ∈ t.pre:=by rw [z_];exact cW
def yO{k:TL}{x:T}(h:x ∈ k.aN):x ∈ k.jG:=by
 rw [rM];exact List.mem_flatten.mpr ⟨_,List.mem_map.mpr ⟨x,h,rfl⟩,pI x⟩
def gW{t x:T}(h:x ∈ t.ai.aN):x ∈ t.pre:=by rw [z_];exact gh _ (yO h)
mutual
theorem mS:∀(t:T),∀x ∈ t.pre,x.ids.Sublist t.ids
 | .mk a at_ k f s ai=>λx b=>by
  rw [T.qR]at b;refine a_ (List.mem_cons.mp b) (λc=> ?_) λb=> ?_
  any_goals subst c
  .exact List.Sublist.refl _
  .dsimp only [T.aU];exact .cons _ (tG ai x b)
theorem tG:∀(k:TL),∀x ∈ k.jG,x.ids.Sublist k.ids
 | .z=>λx a=>by rw [TL.wD]at a;cases a
 | .no r=>λx a=>by rw [TL.jW]at a;rw [TL.cX];exact tG r x a
 | .c t r=>λx a=>by
  rw [TL.jX]at a;rcases List.mem_append.mp a with a |a
  .exact(mS t x a).trans (List.sublist_append_left _ _)
  .exact(tG r x a).trans (List.sublist_append_right _ _)
end
noncomputable def num(l:List Nat)(a:Nat):Int:=1+(l.idxOf a:Nat)
def gX{l:List Nat}(h:l.Nodup):zP (num l) l:=by
 rw [zP,List.pairwise_iff_getElem];intro i j hi c a;simp only [num,h.idxOf_getElem];exact Int.not_le.mp λb=>dJ (xU _ _) (AI (AI bH ck) (AI ck jr)) (AI jr (AI ck bH)) (bE (Int.ofNat_lt.mpr a) b) rfl
section
variable{lo hi:Nat}{ν:Nat->Int}{st S:St}
mutual
theorem Rep.num:∀{t:T},Rep lo hi zn st t->(∀x ∈ t.pre,∀w q g,st[x.a]? =some (gF x.kind w q x.flags x.at_ g)->S[x.a]? =some (gF x.kind w q x.flags x.at_ (ν x.a)))->(∀(a:Nat) (l:List V),st[a]? =some (O.list l)->S[a]? =some (O.list l))->Rep lo hi ν S t
 | .mk a at_ k f s ai,⟨hb,⟨w,q,e,e1,e2⟩,r⟩,c,b=>⟨hb,⟨w,q,e,c (.mk a at_ k f s ai) (pI _) w q _ e1,b _ _ e2⟩,cQ.num r (λx d=>c x (by rw [T.qR];exact gh _ d)) b⟩
theorem cQ.num:∀{k:TL},cQ lo hi zn st k->(∀x ∈ k.jG,∀w q e,st[x.a]? =some (gF x.kind w q x.flags x.at_ e)->S[x.a]? =some (gF x.kind w q x.flags x.at_ (ν x.a)))->(∀(a:Nat) (l:List V),st[a]? =some (O.list l)->S[a]? =some (O.list l))->cQ lo hi ν S k
 | .z,_,_,_=>trivial
 | .no r,x,d,c=>cQ.num (k:=r) x (λy b=>d y (by rw [TL.jW];exact b)) c
 | .c t r,x,d,c=>⟨Rep.num x.1 (λy b=>d y (by rw [TL.jX];exact nT _ b)) c,cQ.num x.2 (λy b=>d y (by rw [TL.jX];exact ry _ b)) c⟩
end
end
def FH{d lo:Nat}{st:St}{K:KV}{b:T}(r:Rep lo st.length zn st b)(C:b.ids.length<400000)(u:b.bJ=true)(j:b.ids.Nodup)
  (h:∀v S,st.length<=S.length->Rep lo st.length (num b.ids) S b->(∀(a:Nat) (l:List V),st[a]? =some (O.list l)->S[a]? =some (O.list l))->K v S):aq (d+2) 5 [.ref b.a,.int 1] st K:=by
 refine L6 r (bP _) C u j λv S n A o=> ?_;have c:∀(a:Nat) (l:List V),st[a]? =some (O.list l)->S[a]? =some (O.list l):=λa l e=>A a _ (λz=>by
  refine eS (pB r a z) λk w q f t m=> ?_;rw [e]at m;cases m) e
 refine h v S n (r.num (λx p w q y e=> ?_) c) c;obtain ⟨i,hi,g⟩:=Dg p;have:=o i x (by rw [gO hi,g]) w q y e;have en:num b.ids x.a=1+(i:Int):=by
  have D:i<b.ids.length:=by rw [<-jm,bN];exact hi
  have ex:x.a=b.ids[i]:=by
   have:(b.pre.map T.a)[i]'(by rw [bN];exact hi)=x.a:=by rw [List.getElem_map,g]
   rw [<-this]
   congr 1
   exact jm b
  rw [num,ex,j.idxOf_getElem]
 rw [en];exact this
mutual
theorem pJ:∀t:T,∀x ∈ t.ini,x ∈ t.pre
 | .mk a at_ k f s ai=>λx b=>by
  rw [T.qQ]at b;split at b
  .exact gh _ (FI ai x b)
  .split at b
   .exact gh _ (tH ai x b)
   .cases b
theorem FI:∀k:TL,∀x ∈ k.sd,x ∈ k.jG
 | .z=>λx a=>by rw [TL.sd]at a;cases a;all_goals (intros;contradiction)
 | .no r=>λx a=>by rw [TL.sd]at a;cases a;all_goals (intros;contradiction)
 | .c t .z=>λx a=>by rw [TL.sd]at a;rw [TL.jX];exact nT _ (pJ t x a)
 | .c t (.no r)=>λx a=>by rw [TL.sd]at a;rw [TL.jX];exact nT _ (pJ t x a)
 | .c t (.c i r)=>λx a=>by
  rw [TL.sd]at a;rcases List.mem_cons.mp a with rfl |a
  .exact ry _ (yO cW)
  .exact nT _ (pJ t x a)
theorem tH:∀k:TL,∀x ∈ k.lF,x ∈ k.jG
 | .z=>λx a=>by rw [TL.rZ]at a;cases a
 | .no r=>λx a=>by rw [TL.vV]at a;rw [TL.jW];exact tH r x a
 | .c t r=>λx a=>by
  rw [TL.r_]at a;refine a_ (List.mem_append.mp a) (λa=> ?_) λa=> ?_
  .exact nT _ (pJ t x a)
  .exact ry _ (tH r x a)
end
def w_{c:Type}(f:c->List Nat)(B:Nat):∀l:List c,(∀t ∈ l,(f t).length<=B)->((l.map f).flatten).length<=B*l.length:=by
 intro zl
 induction zl with
 |nil=>
  intro _;exact(bP _)
 |cons t l e=>
  intro h;have a:=h t (.head _);have b:=e λx g=>h x (.tail _ g);rw [cP,iX,cC,cV,Nat.mul_succ];exact cD λd=>bx (oJ _ _ _ _) (AN aE (AN bg (AN (AN dm aI) aA))) (AN aI (AN dm (AN aE bg))) (aH a (aH b d)) rfl
def mT{a b:Type}{f g:a->List b}:∀l:List a,(∀s ∈ l,(f s).Perm (g s))->((l.map f).flatten).Perm ((l.map g).flatten):=by
 intro zl
 induction zl with
 |nil=>
  intro _;exact oU _
 |cons s l c=>
  intro h;exact(h s (.head _)).append (c λx d=>h x (.tail _ d))
structure Nd (L:Lay) (lo:Nat) (l:List PX) (rl:List (T×List Mk)) (body LP func:T) (az:Bool) (qa:Nat) (fields:Int) (mem:List T) (ML cls bcl aF:T) (st S:St):Prop where
 x:lR L lo l rl body LP func az qa fields mem ML cls bcl aF st
 r:Rep lo st.length (num aF.ids) S aF
 ls:∀(a:Nat) (l:List V),st[a]? =some (O.list l)->S[a]? =some (O.list l)
 len:st.length<=S.length
section
variable{L:Lay}{lo:Nat}{l:List PX}{rl:List (T×List Mk)}{body LP func:T}{az:Bool}{qa:Nat}{fields:Int}{mem:List T}{ML cls bcl aF:T}{st S:St}
def lR.xe(X:lR L lo l rl body LP func az qa fields mem ML cls bcl aF st):cls ∈ aF.pre:=by
 refine cO X.ro λa t b=> ?_;subst b;exact gW (by dsimp only [T.ai,TL.aN];exact(.tail _ (.head _)))
def lR.MT(X:lR L lo l rl body LP func az qa fields mem ML cls bcl aF st):bcl ∈ aF.pre:=by
 refine cO X.ro λa t b=> ?_;subst b;exact gW (by dsimp only [T.ai,TL.aN];exact(.head _))
def lR.FJ(X:lR L lo l rl body LP func az qa fields mem ML cls bcl aF st):ML ∈ aF.pre:=by
 refine bT aF ?_ X.xe;refine gG X.cl λa t e d f c b=> ?_;subst b;exact gW (by dsimp only [T.ai,TL.aN];simp)
def lR.Au(X:lR L lo l rl body LP func az qa fields mem ML cls bcl aF st){n:T}(h:n ∈ mem):n ∈ aF.pre:=by
 refine bT aF ?_ X.FJ;refine cO X.ml λa t b=> ?_;subst b;exact gW (by simpa [T.ai,mP]using h)
def lR.pK(X:lR L lo l rl body LP func az qa fields mem ML cls bcl aF st):func ∈ aF.pre:=X.Au X.fm
def mR.BJ(U:mR L lo l rl body LP func az qa st):LP ∈ func.pre/\body ∈ func.pre:=by
 refine cO U.fn λa t b=> ?_;subst b;exact⟨gW (by dsimp only [T.ai,TL.aN];exact(.head _)),gW (by dsimp only [T.ai,TL.aN];exact(.tail _ (.head _)))⟩
def lR.k_(X:lR L lo l rl body LP func az qa fields mem ML cls bcl aF st):LP ∈ aF.pre:=bT aF X.lT.BJ.1 X.pK
def lR.iy(X:lR L lo l rl body LP func az qa fields mem ML cls bcl aF st):body ∈ aF.pre:=bT aF X.lT.BJ.2 X.pK
def lR.qw(X:lR L lo l rl body LP func az qa fields mem ML cls bcl aF st){p:PX}(h:p ∈ l):p.t ∈ LP.pre:=by
 refine cO X.lT.lp λa t e=> ?_;rw [e];exact gW (by rw [show(T.mk a t 71 0 0 (mO (l.map (·.t)))).ai=mO (l.map (·.t))from rfl,mP];exact List.mem_map.mpr ⟨p,h,rfl⟩)
def lR.FL(X:lR L lo l rl body LP func az qa fields mem ML cls bcl aF st){s:T×List Mk}(h:s ∈ rl):s.1 ∈ body.pre:=by
 refine cO X.lT.bd λa t e=> ?_;rw [e];exact gW (by rw [show(T.mk a t 59 0 0 (mO (rl.map (·.1)))).ai=mO (rl.map (·.1))from rfl,mP];exact List.mem_map.mpr ⟨s,h,rfl⟩)
def FN{lo n oa:Nat}{t pat:T}{own:Option T}{flags:Int}{aM:List (T×List Mk)}(P:Ed lo st n oa t pat own flags aM){s:T×List Mk}(h:s ∈ aM):s.1 ∈ t.pre:=by
 have b:=P.ini.mem_iff.mpr (List.mem_map.mpr ⟨s,h,rfl⟩);refine cO P.shape λa at_ e=> ?_;rw [e];refine a_ (List.mem_append.mp b) (λb=> ?_) λb=> ?_
 .exact bT _ (pJ pat _ b) (gW (by dsimp only [T.ai,TL.aN];exact(.head _)))
 .cases own with
  |none=>cases b
  |some u=>
   have:s.1=u:=by simpa using b
   rw [this];exact gW (by dsimp only [T.ai,TL.aN,oX];exact(.tail _ (.head _)))
def Nd.rep(N:Nd L lo l rl body LP func az qa fields mem ML cls bcl aF st S){x:T}(h:x ∈ aF.pre):Rep lo st.length (num aF.ids) S x:=kJ N.r x h
def Nd.inc(N:Nd L lo l rl body LP func az qa fields mem ML cls bcl aF st S){x:T}(h:x ∈ aF.pre):zP (num aF.ids) x.ids:=(gX N.x.nd).sub (mS aF x h)
def Nd.MU(N:Nd L lo l rl body LP func az qa fields mem ML cls bcl aF st S){m:Mk}{x:T}(b:x ∈ aF.pre)(f:m ∈ e9 l++flat rl)(h:core m ∈ x.aP true true true):sW (num aF.ids) S m:=by
 refine ez N.x.R5 λaL B=> ?_;refine⟨N.ls _ _ (B.hits m f).2,?_⟩;refine iN (ql _ _ _ x _ h) λn c g a j=> ?_;refine aS (bD (N.rep (bT aF c b))) λw q d e d=> ?_;have e1:=g;have e2:=a;rw [e1,e2]at e;exact⟨_,w,q,_,e⟩
def Nd.seg(N:Nd L lo l rl body LP func az qa fields mem ML cls bcl aF st S){p:PX}(a:p ∈ l){s:T×List Mk}(b:s ∈ p.aM):kg (num aF.ids) lo st.length S s:=by
 have P:=N.x.lT.prs.par p a;refine fD (P.seg s b) λQ f e=> ?_;have c:=bT aF (FN P b) (bT aF (N.x.qw a) N.x.k_);refine⟨N.rep c,Q.aG,Q.perm,N.inc c,(zt f (zr 29)),(zt (za e 1) (zr 399959)),λm d=>N.MU c ?_ (Q.perm.mem_iff.mp (List.mem_map.mpr ⟨m,d,rfl⟩))⟩;refine nT _ (List.mem_flatten.mpr ⟨flat p.aM,List.mem_map.mpr ⟨p,a,rfl⟩,?_⟩);exact List.mem_flatten.mpr ⟨s.2,List.mem_map.mpr ⟨s,b,rfl⟩,d⟩
def mR.jT(U:mR L lo l rl body LP func az qa st):body.aG=true:=by
 refine cO U.bd λa t b=> ?_;subst b;have:=FA (rl.map (·.1)) λt c=>by
  refine aB (List.mem_map.mp c) λs d b=> ?_;subst b;exact(U.rws.row s d).1.aG
 have f:=U.rws.few;simp [T.je,mH,yo,HZ,this,gj];exact zt (za f 1) (zr 996)
def mR.iP(U:mR L lo l rl body LP func az qa st):((flat rl).map core).Perm (body.aP true true true):=by
 refine cO U.bd λa t b=> ?_;subst b;have e:(T.mk a t 59 0 0 (mO (rl.map (·.1)))).aP true true true=(rl.map λs=>s.1.aP true true true).flatten:=by
  rw [T.bF,if_pos rfl,tD,gA];rfl
 rw [e];have e2:(flat rl).map core=(rl.map λs=>s.2.map core).flatten:=by simp [flat,List.map_flatten];rfl
 rw [e2];exact mT rl λs c=>(U.rws.row s c).1.perm
def mR.xg(U:mR L lo l rl body LP func az qa st):body.dZ=((body.aP true true true).filter fY).map (·.1):=by
 refine cO U.bd λa t b=> ?_;subst b;have e:(T.mk a t 59 0 0 (mO (rl.map (·.1)))).aP true true true=(rl.map λs=>s.1.aP true true true).flatten:=by
  rw [T.bF,if_pos rfl,tD,gA];rfl
 have c:(T.mk a t 59 0 0 (mO (rl.map (·.1)))).dZ=(rl.map λs=>s.1.dZ).flatten:=by
  rw [T.wK,if_neg (by decide),if_pos (by decide),FD,gA];rfl
 rw [e,c,List.filter_flatten,List.map_flatten,gA,gA]
 congr 1
 refine List.map_congr_left λs d=> ?_;exact(U.rws.row s d).1.ret
def mR.BK(U:mR L lo l rl body LP func az qa st):((e9 l).map core).Perm (LP.aP true true true):=by
 refine cO U.lp λa t b=> ?_;subst b;have e:(T.mk a t 71 0 0 (mO (l.map (·.t)))).aP true true true=(l.map λp=>p.t.aP true true true).flatten:=by
  rw [T.bF,if_pos rfl,tD,gA];rfl
 rw [e];have e2:(e9 l).map core=(l.map λp=>(flat p.aM).map core).flatten:=by simp [e9,List.map_flatten];rfl
 rw [e2];exact mT l λp c=>(U.prs.par p c).aP
end
section
variable{L:Lay}{lo:Nat}{l:List PX}{rl:List (T×List Mk)}{body LP func:T}{az:Bool}{qa:Nat}{fields:Int}{mem:List T}{ML cls bcl aF:T}{st S:St}
def mR.sizes(U:mR L lo l rl body LP func az qa st):body.ids.length<=121/\LP.ids.length<=601/\func.ids.length<=723:=by
 refine cO U.bd λt o e1=> ?_;refine cO U.lp λq m e2=> ?_;refine cO U.fn λu n j=> ?_;have f1:=U.rws.few;have h:=U.prs.few;have k:=w_ (λs:T×List Mk=>s.1.ids) 40 rl λs g=>(U.rws.row s g).2.2;have f:=w_ (λp:PX=>p.t.ids) 300 l λp e=>(U.prs.par p e).size;have b:body.ids.length<=121:=by
  rw [e1,T.aU,mQ,gA,cV];have:((rl.map (T.ids ∘ λx=>x.1)).flatten).length<=40*rl.length:=k;exact cD λa=>bx (fL _ _) (AN (.mulL 40 aE) (AN aI (AN (.num 121) aA))) (AN (.mulL 40 (.num 3)) (AN (.mulL 40 aE) (AN aI aA))) (aH (fJ 40 f1) (aH this a)) rfl
 have c:LP.ids.length<=601:=by
  rw [e2,T.aU,mQ,gA,cV];have:((l.map (T.ids ∘ λx=>x.t)).flatten).length<=300*l.length:=f;exact cD λa=>bx (fL _ _) (AN (.mulL 300 aE) (AN aI (AN (.num 601) aA))) (AN (.mulL 300 (.num 2)) (AN (.mulL 300 aE) (AN aI aA))) (aH (fJ 300 h) (aH this a)) rfl
 refine⟨b,c,?_⟩;rw [j];simp only [T.aU,TL.aU,TL.cX,TL.cG,cV,cC,cY];exact cD λa=>bx (fL _ _) (AN aE (AN aI (AN (.num 723) aA))) (AN (.num 121) (AN (.num 601) (AN (AN aI (AN aE oW)) aA))) (aH b (aH c a)) rfl
def lR.size(X:lR L lo l rl body LP func az qa fields mem ML cls bcl aF st):aF.ids.length<10000/\∀n ∈ mem,n.ids.length<=723:=by
 refine fD X.lT.sizes λq x k=> ?_;have e:∀n ∈ mem,n.ids.length<=723:=λn g=>by
  rcases X.As n g with rfl |⟨a,b,c,d,rfl⟩ |⟨_,a,b,c,d,rfl⟩
  .exact k
  .exact(zb rfl)
  .exact(zb rfl)
 have h:=w_ T.ids 723 mem e;have f:=X.few;refine cO X.ml λv D e0=> ?_;refine gG X.cl λa t y p z o e1=> ?_;refine gG X.bc λb u b1 C b2 A e2=> ?_;refine cO X.ro λc w m=> ?_;refine⟨?_,e⟩;rw [m,e2,e1,e0];simp only [T.aU,TL.aU,TL.cX,TL.cG,mQ,cV,cC,cY];exact bK λj=>bx (fL _ _) (AN aE (AN (.mulL 723 aI) (.num 10000))) (AN (.mulL 723 aI) (AN (.mulL 723 (.num 4)) (AN (AN (AN (AN (AN oW aA) (AN (AN oW aA) oW)) aA) (AN (AN (AN (AN oW aA) (AN (AN oW aA) (AN (AN aE aA) oW))) aA) oW)) aA))) (aH h (aH (fJ 723 f) j)) rfl
def lR.Cz(X:lR L lo l rl body LP func az qa fields mem ML cls bcl aF st):aF.bJ=true:=by
 have U:=X.lT;refine cO U.bd λz q e1=> ?_;refine cO U.lp λy h e2=> ?_;refine cO U.fn λE C g=> ?_;have f1:=U.rws.few;have x:=U.prs.few;have nb:=T.eu _ U.jT;have j:LP.bJ=true:=by
  rw [e2,T.cg,tE _ λt k=>by obtain ⟨p,o,rfl⟩:=List.mem_map.mp k;exact(U.prs.par p o).Cz];simp [gj];exact zt (za x 1) (zr 997)
 have A:func.bJ=true:=by rw [g];simp [T.cg,TL.cg,TL.jC,TL.gc,nb,j,TL.jc,TL.ku,TL.iz]
 have nm:∀n ∈ mem,n.bJ=true:=λn v=>by
  rcases X.As n v with rfl |⟨a,b,c,d,rfl⟩ |⟨_,a,b,c,d,rfl⟩
  .exact A
  .exact rfl
  .exact rfl
 have f:=X.few;refine cO X.ml λI H e0=> ?_;refine gG X.cl λa t z q y h e1=> ?_;refine gG X.bc λb u b1 G b2 D e2=> ?_;refine cO X.ro λc w g=> ?_;have m:ML.bJ=true:=by
  rw [e0,T.cg,tE _ nm];simp [gj];exact zt (za f 1) (zr 995)
 rw [g,e2,e1];simp [T.cg,TL.cg,TL.jC,TL.gc,TL.jc,TL.ku,TL.iz,m]
def lR.number{d:Nat}{K:KV}(X:lR L lo l rl body LP func az qa fields mem ML cls bcl aF st)(h:∀v S,Nd L lo l rl body LP func az qa fields mem ML cls bcl aF st S->K v S):aq (d+2) 5 [.ref aF.a,.int 1] st K:=
 FH X.rep (by have:=X.size.1;exact zt this (zr 390000)) X.Cz X.nd λv S a b c=>h v S ⟨X,b,c,a⟩
def mR.fN(U:mR L lo l rl body LP func az qa st):func.ai= .no (.c LP (.no (.e body)))/\func.kind=27/\func.flags=Ar az:=by
 refine cO U.fn λa t b=> ?_;subst b;exact⟨rfl,rfl,rfl⟩
def mR.Rf(U:mR L lo l rl body LP func az qa st):LP.ids.Nodup/\body.ids.Nodup/\(∀a ∈ LP.ids,a ∉ body.ids)/\func.a ∉ LP.ids/\func.a ∉ body.ids:=by
 have nd:=U.nd;refine cO U.fn λa t e=> ?_;rw [e]at nd ⊢;simp only [T.aU,TL.aU,TL.cX,TL.cG,fK,lG,nc,List.mem_append,not_or]at nd;exact⟨nd.2.1,nd.2.2.1,λx c b=>nd.2.2.2 x c x b rfl,nd.1.1,nd.1.2⟩
section
variable(N:Nd L lo l rl body LP func az qa fields mem ML cls bcl aF st S)
include N
theorem Nd.uB{x:T}(h:x ∈ aF.pre):∀a ∈ x.ids,a ∈ aF.ids:=λa b=>(mS aF x h).subset b
theorem Nd.held{m:Mk}(g:m ∈ flat rl):m.a ∈ body.ids/\met (num aF.ids) (num aF.ids m.a) body.dir=m.w0/\met (num aF.ids) (num aF.ids m.a) (dz func.ai.aN)=m.w0:=by
 have U:=N.x.lT;have f:=U.iP.mem_iff.mp (List.mem_map.mpr ⟨m,g,rfl⟩);have a:m.a ∈ body.ids:=mG f;refine rS U.Rf λn1 n2 n3 n4 n5=> ?_;have hb:=N.x.iy;have k:=N.x.k_;have d:=wG true true true body n2 _ f;have c:m.w0=decide (m.a ∈ body.dir):=by rw [uA]at d;exact d
 have e:dz func.ai.aN=LP.dir++body.dir:=by rw [U.fN.1];simp [TL.oY,TL.eZ,TL.dW,dz]
 refine⟨a,?_,?_⟩
 .rw [jY (gX N.x.nd) (N.uB hb _ a) λx b=>N.uB hb _ (dF body x b),c]
 .rw [e,iL,jY (gX N.x.nd) (N.uB hb _ a) λx b=>N.uB hb _ (dF body x b),jY (gX N.x.nd) (N.uB hb _ a) λx b=>N.uB k _ (dF LP x b),c];have:m.a ∉ LP.dir:=λh=>n3 _ (dF LP _ h) a;simp [this]
theorem Nd.early{m:Mk}(n:m ∈ e9 l):m.a ∈ LP.ids/\met (num aF.ids) (num aF.ids m.a) body.dir=false/\met (num aF.ids) (num aF.ids m.a) (dz func.ai.aN)=m.w0:=by
 have U:=N.x.lT;have j:=U.BK.mem_iff.mp (List.mem_map.mpr ⟨m,n,rfl⟩);have b:m.a ∈ LP.ids:=mG j;refine rS U.Rf λn1 n2 n3 n4 n5=> ?_;have hb:=N.x.iy;have c:=N.x.k_;have f:=wG true true true LP n1 _ j;have g:m.w0=decide (m.a ∈ LP.dir):=by rw [uA]at f;exact f
 have e:dz func.ai.aN=LP.dir++body.dir:=by rw [U.fN.1];simp [TL.oY,TL.eZ,TL.dW,dz]
 have d:m.a ∉ body.dir:=λh=>n3 _ b (dF body _ h);refine⟨b,?_,?_⟩
 .rw [jY (gX N.x.nd) (N.uB c _ b) λx a=>N.uB hb _ (dF body x a)];simp [d]
 .rw [e,iL,jY (gX N.x.nd) (N.uB c _ b) λx a=>N.uB hb _ (dF body x a),jY (gX N.x.nd) (N.uB c _ b) λx a=>N.uB c _ (dF LP x a),g];simp [d]
theorem Nd.tree{m:Mk}(a:m ∈ e9 l++flat rl):∃n,n.a=m.a/\Rep lo st.length (num aF.ids) S n/\n.aG=true/\ji n=(m.sort==1):=by
 have o:∀x:T,x ∈ aF.pre->x.aG=true->core m ∈ x.aP true true true->∃n,n.a=m.a/\Rep lo st.length (num aF.ids) S n/\n.aG=true/\ji n=(m.sort==1):=λx u g w=>by
  refine iN (ql _ _ _ x _ w) λn j v y t=> ?_;have k:=yl x g n j;have f:n.sort=m.sort:=t;exact⟨n,v,N.rep (bT aF j u),k,by rw [ym k,f]⟩
 have U:=N.x.lT;rcases List.mem_append.mp a with a |a
 .refine aB (List.mem_flatten.mp a) λfl e a=> ?_;refine aB (List.mem_map.mp e) λp c b=> ?_;subst b;refine aB (List.mem_flatten.mp a) λms d a=> ?_;refine aB (List.mem_map.mp d) λs h b=> ?_;subst b;have P:=U.prs.par p c;have Q:=(P.seg s h).1;exact o s.1 (bT aF (FN P h) (bT aF (N.x.qw c) N.x.k_)) Q.aG (Q.perm.mem_iff.mp (List.mem_map.mpr ⟨m,a,rfl⟩))
 .exact o body N.x.iy U.jT (U.iP.mem_iff.mp (List.mem_map.mpr ⟨m,a,rfl⟩))
theorem Nd.By{m:Mk}(a:m ∈ e9 l++flat rl):sW (num aF.ids) S m:=by
 have U:=N.x.lT;rcases List.mem_append.mp a with h |h
 .exact N.MU N.x.k_ a (U.BK.mem_iff.mp (List.mem_map.mpr ⟨m,h,rfl⟩))
 .exact N.MU N.x.iy a (U.iP.mem_iff.mp (List.mem_map.mpr ⟨m,h,rfl⟩))
end
end
section
variable{K:KV}{KS:KS}{L:Lay}{lo hi qa qb ne:Nat}{body func cls bcl:T}{az seen:Bool}{fields w:Int}{S:St}{v0:Option V}{ν:Nat->Int}
def Rg{st:St}{x:O}{c:St}(p:st <+: c){a:Nat}{o:O}(h:st[a]? =some o):c[a]? =some o:=ak p h
def I5{M a8 Q b4:Option V}(rc:Rep lo hi ν S cls)(hh:hi<=S.length)
  (h:∀st x g o n0 rl nl s1 s2 j1 h5 h3,nA S ν n0 x g o rl nl ((s1,bcl)::(if seen=true then [(s2,cls)]else [])) cls [] [] st->vB (aq 59) FO (fr v0 L az seen fields w qa ne qb body func [M,a8,Q,some (.ref cls.a),some (.ref bcl.a),j1,h5,h3,some (.ref x),none,none,none,b4,none,none,none,none,none,none,none,none,none,none,none]) st KS):
  vB (aq 59) C_ (fr v0 L az seen fields w qa ne qb body func [M,a8,Q,some (.ref cls.a),some (.ref bcl.a),none,none,none,none,none,none,none,b4,none,none,none,none,none,none,none,none,none,none,none]) S KS:=by
 refine aS (bD rc) λwc qc zz ec zz=> ?_;dsimp only [C_,ah,cL,sZ,cy];simp only [FP];refine PS (d:=56) λa ft dl d6 p1 t1 t2 t3=>⟨rfl,?_⟩;have l1:=p1.length_le;have g8:=aJ t1;have G:=aJ t3;simp only [gB,cB,cA];rw [aa,ah,cL,sZ];dsimp only [vL,vE,I6,FQ];refine IX (d:=57) λC fd N d1 d2=>⟨rfl,?_⟩;have l2:=N.length_le;have o5:=aJ d1;simp only [gB,cB,cA];rw [aa,ah,Aa];refine aK (aj rfl) (ak (p1.trans N) ec) (v:= .int (ν cls.a)) rfl ?_;refine aj rfl _ ?_;simp only [d1];refine⟨⟨rfl,(zt d2 (zr 100))⟩,?_⟩;generalize g2:putL 6 (V.int (ν cls.a)) fd=j;have g9:j.lookup 6=some (.int (ν cls.a)):=by rw [<-g2,lQ,if_pos rfl]
 rw [aa,ah,gy,iV];have Y:(C.set a.length (O.inst 7 j))[S.length]? =some (.inst 6 ft):=aT (zg g8) (ak N t1);have E:(C.set a.length (O.inst 7 j))[dl]? =some (.list [.none]):=aT (zg G) (ak N t3);have d4:(C.set a.length (O.inst 7 j))[a.length]? =some (.inst 7 j):=bh d1;have pS:S <+: C.set a.length (O.inst 7 j):=fM (p1.trans N) l1;have e1:(C.set a.length (O.inst 7 j)).length=C.length:=vO;generalize C.set a.length (O.inst 7 j)=I at Y E d4 pS e1 ⊢;refine aK (aj rfl) Y t2 ?_;simp only [E];refine aj rfl _ ?_;simp only [E];refine⟨(zb rfl),?_⟩;have d5:(I.set dl (O.list ([V.none]++ [V.ref a.length])))[S.length]? =some (.inst 6 ft):=aT (zg d6) Y;have e2:(I.set dl (O.list ([V.none]++ [V.ref a.length])))[dl]? =some (.list [.none,.ref a.length]):=bh E;have d3:(I.set dl (O.list ([V.none]++ [V.ref a.length])))[a.length]? =some (.inst 7 j):=aT (zl G) d4;have e0:S <+: I.set dl (O.list ([V.none]++ [V.ref a.length])):=fM pS (zs d6);have p:(I.set dl (O.list ([V.none]++ [V.ref a.length]))).length=C.length:=by simp [e1]
 generalize I.set dl (O.list ([V.none]++ [V.ref a.length]))=y at d5 e2 d3 e0 p ⊢;rw [aa,ah,cL,sZ,aW,sZ,cy];simp only [yP,FT];refine yK (d:=58) ⟨rfl,?_⟩;rw [cy];have p5:y <+: y++ [O.inst 4 [(27,.ref (y.length+1)),(26,.str 0)],O.list []]:=eE _ _;have q:(y++ [O.inst 4 [(27,.ref (y.length+1)),(26,.str 0)],O.list []]).length=y.length+2:=cC;generalize y++ [O.inst 4 [(27,.ref (y.length+1)),(26,.str 0)],O.list []]=c5 at p5 q ⊢;refine Fo (d:=57) λk fb b l p6 b1 b2 b3=>⟨rfl,?_⟩;have l6:=p6.length_le;have o8:=aJ b1;have U:=aJ b3;simp only [gB,cB,cA];rw [aa,ah,gy,iV];refine aK (aj rfl) b1 b2 ?_;simp only [b3];rw [sZ];dsimp only [vL,vE,Ai,yQ,lU,cF,bM];refine Fq (d:=57) λt f7 n7 p7 y1 y2 y3 y4=>⟨rfl,?_⟩;have l7:=p7.length_le;have o6:=aJ y1;have i2:=aJ y4;have fin:∀(c:St) (s1 s2:Nat) (A:List (Nat×T)),A=((s1,bcl)::(if seen=true then [(s2,cls)]else []))->S <+: c->c[S.length]? =some (.inst 6 ft)->c[dl]? =some (.list [.none,.ref a.length])->c[a.length]? =some (.inst 7 j)->c[c5.length]? =some (.inst 2 fb)->c[b]? =some (.list (.none::A.map λs=> .ref s.1))->(∀s ∈ A,yy c.length c s)->
   vB (aq 59) (.c (.a 21 (.new 15 (.q (.l 18) .o (.l 20) .o (.f .o (.new 4 .z) (.new 5 .z))))) FO) (fr v0 L az seen fields w qa ne qb body func [M,a8,Q,some (.ref cls.a),some (.ref bcl.a),some (.ref S.length),some (.ref a.length),some (.ref c5.length),none,none,none,none,b4,none,none,none,none,none,none,none,none,none,none,none]) c KS:=by
  intro c s1 s2 A f4 q1 q2 q3 q4 q5 q6 q7;rw [ah,cL,sZ,aW];refine aj rfl _ ?_;rw [aW,bV,aW];refine aj rfl _ ?_;rw [aW,bV,aW,bV,aW,sZ,cy];simp only [yP];refine yK (d:=58) ⟨rfl,?_⟩;rw [aW,sZ,cy];simp only [FU];refine Fj (d:=58) ⟨rfl,?_⟩;rw [cy];simp only [Dh];have le:(c++ [O.inst 4 [(27,V.ref (c.length+1)),(26,V.str 0)],O.list []]).length=c.length+2:=cC;have k1:(c++ [O.inst 4 [(27,V.ref (c.length+1)),(26,V.str 0)],O.list []]++ [O.inst 5 [(27,V.ref (c.length+2+1))],O.list []])[c.length]? =some (O.inst 4 [(27,V.ref (c.length+1)),(26,V.str 0)]):=by simp
  have k2:(c++ [O.inst 4 [(27,V.ref (c.length+1)),(26,V.str 0)],O.list []]++ [O.inst 5 [(27,V.ref (c.length+2+1))],O.list []])[c.length+1]? =some (O.list []):=by simp
  have k3:(c++ [O.inst 4 [(27,V.ref (c.length+1)),(26,V.str 0)],O.list []]++ [O.inst 5 [(27,V.ref (c.length+2+1))],O.list []])[c.length+2]? =some (O.inst 5 [(27,V.ref (c.length+2+1))]):=by simp
  have k4:(c++ [O.inst 4 [(27,V.ref (c.length+1)),(26,V.str 0)],O.list []]++ [O.inst 5 [(27,V.ref (c.length+2+1))],O.list []])[c.length+2+1]? =some (O.list []):=by
   rw [fW,Af (zr 3),show c.length+2+1-c.length=3 from Nat.add_sub_cancel_left (n:=c.length) (m:=3)];rfl
  have k0:c <+:(c++ [O.inst 4 [(27,V.ref (c.length+1)),(26,V.str 0)],O.list []]++ [O.inst 5 [(27,V.ref (c.length+2+1))],O.list []]):=cE (eE _ _);rw [le];generalize (c++ [O.inst 4 [(27,V.ref (c.length+1)),(26,V.str 0)],O.list []]++ [O.inst 5 [(27,V.ref (c.length+2+1))],O.list []])=e at k0 k1 k2 k3 k4 ⊢;refine Ft (d:=57) λz fs pz z0 h7 h4 g3 h9 g7 f3 e8 e4=>⟨rfl,?_⟩;have D:=k0.trans pz;have g5:=aJ q3;have i8:=aJ q6;simp only [gB,cB,cA];rw [aa];subst f4;refine h z e.length c.length (c.length+2) c.length (c.length+1) (c.length+2+1) s1 s2 _ _ _ ⟨q1.trans D,⟨q1.length_le,(zr 1),(zr 3),(zl (zr 1))⟩,⟨⟨fs,c5.length,S.length,z0,h4,h7,h9,g7,g3,f3,e8,e4,⟨fb,b,ak D q5,b2,ak D q6,i8⟩,ft,dl,a.length,j,ak D q2,t2,ak D q3,ak D q4,g9,g5⟩,λs J=> ?_⟩,⟨_,ak pz k1,rfl,rfl,rfl⟩,⟨_,ak pz k3,rfl,rfl⟩,⟨[],rfl,ak pz k2,λd hd=>(by cases hd)⟩,ak pz k4⟩;refine mK (q7 s J) λf n a1 a2 a3 a4 a5=> ?_;exact⟨f,n,ak D a1,a2,a3,ak D a4,a5⟩
 have b5:t[b]? =some (.list [.none]):=ak p7 b3;have i5:n7≠b:=λz=>by rw [z,b5]at y4;cases y4
 simp only [b5];refine⟨(zb rfl),?_⟩;have H:y <+: t:=(p5.trans p6).trans p7;have w1:(t.set b (O.list ([V.none]++ [V.ref k.length])))[S.length]? =some (.inst 6 ft):=aT (zg (zt (zt (zt (zt (za l1 1) (za l2 1)) (za (zf p) 1)) (zs (zf q))) (zs l))) (ak H d5);have w2:(t.set b (O.list ([V.none]++ [V.ref k.length])))[dl]? =some (.list [.none,.ref a.length]):=aT (zg (zt (zt (zt (zt G l2) (zf p)) (zt (zr 2) (zf q))) (zs l))) (ak H e2);have w3:(t.set b (O.list ([V.none]++ [V.ref k.length])))[a.length]? =some (.inst 7 j):=aT (zg (zt (zt (zt (za l2 1) (za (zf p) 1)) (zs (zf q))) (zs l))) (ak H d3);have w4:(t.set b (O.list ([V.none]++ [V.ref k.length])))[c5.length]? =some (.inst 2 fb):=aT (zg l) (ak p7 b1);have w5:(t.set b (O.list ([V.none]++ [V.ref k.length])))[b]? =some (.list [.none,.ref k.length]):=bh b5;have w6:yy (t.set b (O.list ([V.none]++ [V.ref k.length]))).length (t.set b (O.list ([V.none]++ [V.ref k.length]))) (k.length,bcl):=⟨f7,n7,aT (zl (bK λzz=>bx (fL _ _) (AN (AN aE aA) aI) (AN aI aE) (aH U zz) rfl)) y1,y2,y3,aT (λz=>i5 z.symm) y4,by simpa using i2⟩;have w0:S <+: t.set b (O.list ([V.none]++ [V.ref k.length])):=fM (e0.trans H) (zt (zt (zt (zt l1 l2) (zf p)) (zt (zr 2) (zf q))) (zs l));have d0:(t.set b (O.list ([V.none]++ [V.ref k.length]))).length=t.length:=vO;generalize t.set b (O.list ([V.none]++ [V.ref k.length]))=c8 at w0 w1 w2 w3 w4 w5 w6 d0 ⊢;rw [aa,ah];refine aV seen (aj rfl) ?_;cases seen
 .rw [if_neg (by decide),au,aa];refine fin c8 k.length 0 [(k.length,bcl)] (dw _) w0 w1 w2 w3 w4 w5 λs J=> ?_;rw [List.mem_singleton.mp J];exact w6
 .rw [if_pos rfl,ah,gy,iV];refine aK (aj rfl) w4 b2 ?_;simp only [w5];dsimp only [sZ];dsimp only [vL,vE,Ai,yQ,lU,cF,bM];refine Fq (d:=57) λc9 f9 n9 u x1 x2 x3 x4=>⟨rfl,?_⟩;have l9:=u.length_le;have o7:=aJ x1;have g6:=aJ x4;have a9:c9[b]? =some (.list [.none,.ref k.length]):=ak u w5;have e6:n9≠b:=λz=>by rw [z,a9]at x4;cases x4
  simp only [a9];refine⟨(zb rfl),?_⟩;dsimp only [aa,au,aa];refine mK w6 λf8 n8 z1 z2 z3 z4 z5=> ?_;have f0:n8≠b:=λz=>by rw [z,w5]at z4;cases z4
  refine fin _ k.length c8.length [(k.length,bcl),(c8.length,cls)] (dw _) (fM (w0.trans u) (zt (zt (zt (zt l1 l2) (zf p)) (zt (zr 2) (zf q))) (zs l))) (aT (zg (zt (zt (zt (zt (za l1 1) (za l2 1)) (za (zf p) 1)) (zs (zf q))) (zs l))) (ak u w1)) (aT (zg (zt (zt (zt (zt G l2) (zf p)) (zt (zr 2) (zf q))) (zs l))) (ak u w2)) (aT (zg (zt (zt (zt (za l2 1) (za (zf p) 1)) (zs (zf q))) (zs l))) (ak u w3)) (aT (zg l) (ak u w4)) (bh a9) λs J=> ?_;simp only [List.mem_cons,tK,or_false]at J;rcases J with rfl |rfl
  .exact⟨f8,n8,aT (by show b≠k.length;exact zl U) (ak u z1),z2,z3,aT (λz=>f0 z.symm) (ak u z4),by simp;exact zt z5 l9⟩
  .exact⟨f9,n9,aT (by show b≠c8.length;exact zl (zt (zt U l7) (zf d0))) x1,x2,x3,aT (λz=>e6 z.symm) x4,by simpa using g6⟩
end
def PV{x y:T}{a:Nat}:∀l:List T,((l.map T.ids).flatten).Nodup->x ∈ l->y ∈ l->x≠y->a ∈ x.ids->a ∉ y.ids:=by
 intro zl
 induction zl with
 |nil=>
  intro _ c _ _ _;cases c
 |cons t l h=>
  intro e c d ne f;exact λhb=>by
   rw [cP,iX,nc]at e;have fl:∀z ∈ l,∀b ∈ z.ids,b ∈(l.map T.ids).flatten:=λz j b hb=>List.mem_flatten.mpr ⟨_,List.mem_map.mpr ⟨z,j,rfl⟩,hb⟩;rcases List.mem_cons.mp c with ex |c<;>rcases List.mem_cons.mp d with g |d
   .exact ne (ex.trans g.symm)
   .exact e.2.2 a (ex▸f) a (fl y d a hb) rfl
   .exact e.2.2 a (g▸hb) a (fl x c a f) rfl
   .exact h e.2.1 c d ne f hb
section
variable{L:Lay}{lo:Nat}{l:List PX}{rl:List (T×List Mk)}{body LP func:T}{az:Bool}{qa:Nat}{fields:Int}{mem:List T}{ML cls bcl aF:T}{st S:St}
def mR.BL(U:mR L lo l rl body LP func az qa st):jf func=az:=by
 refine fD U.fN λc a b=> ?_;rw [jf,a,b];cases az<;>decide
def lR.MX(X:lR L lo l rl body LP func az qa fields mem ML cls bcl aF st):((mem.map T.ids).flatten).Nodup:=by
 have h:=X.nd.sublist (mS aF ML X.FJ);refine cO X.ml λa t b=> ?_;subst b;rw [T.aU,mQ,lG]at h;exact h.2
def mR.PW(U:mR L lo l rl body LP func az qa st):gU func 3=some body/\gU func 1=some LP:=by
 rw [gU,gU,U.fN.1];exact⟨rfl,rfl⟩
def iE{n:T}(h:qu n):n.kind=27/\gU n 3=none/\n.ai.aZ.length=4/\∃b,dz n.ai.aN=[b]/\b ∈ n.ids:=by
 refine pA h λa t b d c=> ?_;subst c;exact⟨rfl,rfl,rfl,b,(fK _),(.tail _ (.head _))⟩
def jv{n:T}{fields:Int}(h:tF fields n):n.kind=62/\n.flags=262144*(fields-1)/\(gU n 1).isSome=true/\n.ai.aZ.length=2:=by
 refine pA h λa t d c b=> ?_;subst b;exact⟨rfl,rfl,rfl,rfl⟩
def Av{n:T}{fields:Int}(h:tF fields n):jf n=false:=by rw [jf,(jv h).1];rfl
def lR.Ja(X:lR L lo l rl body LP func az qa fields mem ML cls bcl aF st){n:T}(h:qu n):n≠func:=λe=>by
 have a:=(iE h).2.1;rw [e,X.lT.PW.1]at a;cases a
section
variable(N:Nd L lo l rl body LP func az qa fields mem ML cls bcl aF st S)
include N
theorem Nd.FW{m:Mk}(k:m ∈ e9 l++flat rl):((mem.filter jf).any λn=>met (num aF.ids) (num aF.ids m.a) (dz n.ai.aN))=(az&&m.w0):=by
 have X:=N.x;have U:=X.lT;have g:met (num aF.ids) (num aF.ids m.a) (dz func.ai.aN)=m.w0:=by
  rcases List.mem_append.mp k with h |h
  .exact(N.early h).2.2
  .exact(N.held h).2.2
 have d:m.a ∈ func.ids:=by
  rcases List.mem_append.mp k with h |h
  .exact(mS func LP U.BJ.1).subset (N.early h).1
  .exact(mS func body U.BJ.2).subset (N.held h).1
 rw [Ad];simp only [CN,List.mem_filter,cM];constructor
 .rintro ⟨n,⟨f,b⟩,a⟩
  rcases X.As n f with rfl |h |⟨_,h⟩
  .rw [U.BL]at b;exact⟨b,by rw [<-g];exact a⟩
  .exfalso;refine FY (iE h) λj j j t e c=> ?_;rw [e,jY (gX X.nd) (N.uB X.pK _ d) λx q=>N.uB (X.Au f) _ (by rw [List.mem_singleton.mp q];exact c)]at a;have e2:m.a=t:=by simpa using a
   exact PV mem X.MX f X.fm (X.Ja h) (e2▸c) d
  .rw [Av h]at b;cases b
 .rintro ⟨u,p⟩
  exact⟨func,⟨X.fm,by rw [U.BL];exact u⟩,by rw [g];exact p⟩
theorem Nd.find:(mem.filter jf).find? jI=if az=true then some func else none:=by
 have X:=N.x;have U:=X.lT;have only:∀n ∈ mem.filter jf,jI n=true->n=func:=λn c hb=>by
  obtain ⟨b,a⟩:=List.mem_filter.mp c;refine a_ (X.As n b) (λf=> ?_) λj=>a_ j (λh=> ?_) λk=> ?_
  any_goals subst f
  any_goals obtain ⟨_,h⟩:=k
  .rfl
  .rw [jI,(iE h).2.1]at hb;cases hb
  .rw [Av h]at a;cases a
 have d:jI func=true:=by rw [jI,U.PW.1];rfl
 cases b:az
 .rw [if_neg (by decide),yx];intro n c hb;have e:=only n c hb;have a:=(List.mem_filter.mp c).2;rw [e,U.BL,b]at a;cases a
 .rw [if_pos rfl];have g:func ∈ mem.filter jf:=List.mem_filter.mpr ⟨X.fm,by rw [U.BL,b]⟩
  cases hf:(mem.filter jf).find? jI with
  |none=>
   rw [yx]at hf;exact absurd d (hf func g)
  |some n=>rw [only n (CU hf) (List.find?_some hf)]
theorem Nd.Lm:EV (num aF.ids) lo st.length S cls ML mem:=by
 have X:=N.x;refine cO X.ml λa t e=> ?_;refine gG X.cl λc u h g j f b=> ?_;refine⟨N.rep X.xe,by rw [b];rfl,by rw [b];rfl,N.rep X.FJ,by rw [e];exact gj mem,λn d=>N.rep (X.Au d),by have:=X.few;exact zt this (zr 6)⟩
theorem Nd.Jb(c:0<=fields/\fields<3):mem.any D4=(fields==1):=by
 have X:=N.x;rw [Ad,CN];constructor
 .rintro ⟨n,b,a⟩
  rcases X.As n b with rfl |h |⟨_,h⟩
  .rw [D4,X.lT.fN.2.1]at a;simp at a
  .rw [D4,(iE h).1]at a;simp at a
  .rw [D4,(jv h).2.1]at a;rcases (or3 c.1 c.2)with rfl |rfl |rfl
   .lia
   .rfl
   .exfalso;simp only [cM]at a;exact absurd a.2.1 (by decide)
 .intro h;have e:fields=1:=by simpa using h
  refine aB (X.fld (Int.not_le.mp λd=>dJ (fP _) (AI ck bH) (AI bH jb) (bE (Int.le_of_eq e.symm) d) rfl)) λn b a=> ?_;refine⟨n,b,?_⟩;rw [D4,(jv a).1,(jv a).2.1,(jv a).2.2.1,e]
  decide
theorem Nd.FZ{p:PX}(b:p ∈ l):yw p.t=jD p.pat p.flags/\gU p.t 0=some p.pat/\p.t.ai.aZ[0]? =some (.ref p.pat.a)/\Rep lo st.length (num aF.ids) S p.pat:=by
 have P:=N.x.lT.prs.par p b;refine cO P.shape λa t e=> ?_;have k0:gU p.t 0=some p.pat:=by rw [e];rfl
 have c:p.t.flags=p.flags:=by rw [e];rfl
 refine⟨?_,k0,by rw [e];rfl,N.rep (bT aF (gW (by rw [e];exact cW)) (bT aF (N.x.qw b) N.x.k_))⟩;rw [yw,k0,c,jD];have:([16384,32768,65536,131072].any λf=>Builtin.bitAnd p.flags f != 0)=decide (p.flags>0):=by
  rcases P.fl with h |h |h<;>rw [h]<;>decide
 rw [this,Bool.and_comm]
theorem Nd.MY:Ctor lo st.length (num aF.ids) S mem (l.map (·.t)):=by
 have X:=N.x;have U:=X.lT;refine⟨λn q g=> ?_,λf b=> ?_,λt m=> ?_,by have:=U.prs.few;simp;exact zt this (zr 8)⟩
 .rcases X.As n q with rfl |h |⟨_,h⟩
  .rw [U.fN.1];exact(bP _)
  .rw [(iE h).2.2.1];exact bI rfl
  .rw [Av h]at g;cases g
 .rw [N.find]at b;have e:f=func:=by
   cases az
   .cases b
   .simp at b;exact b.symm
  rw [e];refine cO U.lp λa t el=> ?_;exact⟨LP,by rw [U.fN.1];rfl,N.rep X.k_,by rw [el];exact gj _⟩
 .refine aB (List.mem_map.mp m) λp c d=> ?_;subst d;refine qs (N.FZ c) λv k o u=> ?_;exact⟨N.rep (bT aF (X.qw c) X.k_),p.pat,k,o,u⟩
end
end
noncomputable abbrev uC(p:PX):PI:=⟨p.t,p.pat,p.own,p.aM⟩
section
variable{L:Lay}{lo:Nat}{l:List PX}{rl:List (T×List Mk)}{body LP func:T}{az:Bool}{qa:Nat}{fields:Int}{mem:List T}{ML cls bcl aF:T}{st S:St}
def mR.bW(U:mR L lo l rl body LP func az qa st):(flat rl).length<=33:=by
 have d:=f_ λs b=>(U.rws.row s b).2.1;have c:=U.rws.few;exact cD λa=>bx (fL _ _) (AN aE (AN (.mulL 11 aI) (AN (.num 33) aA))) (AN (.mulL 11 aI) (AN (.mulL 11 (.num 3)) aE)) (aH d (aH (fJ 11 c) a)) rfl
def mR.Jc(U:mR L lo l rl body LP func az qa st):body.ai.aZ=br (rl.map (·.1)):=by
 refine cO U.bd λa t b=> ?_;subst b;exact gj _
section
variable(N:Nd L lo l rl body LP func az qa fields mem ML cls bcl aF st S)
include N
theorem Nd.Jd:kg (num aF.ids) lo st.length S (body,flat rl):=by
 have U:=N.x.lT;have c:=U.bW;have:=U.sizes.1;exact⟨N.rep N.x.iy,U.jT,U.iP,N.inc N.x.iy,zt c (zb rfl),by show body.ids.length<400000;exact zt (za this 1) (zr 399878),λm b=>N.By (ry _ b)⟩
theorem Nd.PY{p:PX}(b:p ∈ l):E0 (num aF.ids) lo st.length S (uC p):=by
 have P:=N.x.lT.prs.par p b;refine cO P.shape λa t e=> ?_;have:=P.size;exact⟨N.rep (bT aF (N.x.qw b) N.x.k_),by show p.t.ids.length<400000;exact zt (za this 1) (zr 399699),by show p.t.ai=_;rw [e];rfl,P.wf,P.ini,λs c=>N.seg b c,P.len⟩
theorem Nd.T7:Q_ (num aF.ids) lo st.length S cls ML func LP body mem (rl.map (·.1)) (l.map uC):=by
 have X:=N.x;have U:=X.lT;have f:(l.map uC).map (·.t)=l.map (·.t):=by simp
 refine cO U.lp λa t el=> ?_;refine{hh:=N.len,c:=N.Lm,q:=by rw [f];exact N.MY,fld:=λn u e=> ?_,rf:=N.rep X.pK,f1:=by rw [U.fN.1];rfl,rp:=N.rep X.k_,vp:=by rw [f,el];exact gj _,f3:=by rw [U.fN.1];rfl,rb:=N.rep X.iy,gb:=U.jT,zb:=by have:=U.sizes.1;exact zt (za this 1) (zr 399878),lb:= ?_,vb:=U.Jc,hb:=λt o=> ?_,hP:=λp m=> ?_,few:=by have:=U.prs.few;simp;exact zt this (zr 8)}
 .rcases X.As n u with rfl |h |⟨_,h⟩
  .rw [U.fN.2.1]at e;cases e
  .rw [(iE h).1]at e;cases e
  .rw [(jv h).2.2.2];exact bI rfl
 .have v:=kL U.jT;have g:=U.iP.length_eq;rw [bN]at g;have:=U.bW;exact zt (zt (zt v (zf g)) this) (zr 67)
 .refine aB (List.mem_map.mp o) λs j d=> ?_;subst d;exact⟨N.rep (bT aF (X.FL j) X.iy),(U.rws.row s j).1.aG⟩
 .refine aB (List.mem_map.mp m) λw k d=> ?_;subst d;exact N.PY k
end
def qy{t:T}{ms:List Mk}(g:t.aG=true)(P:(ms.map core).Perm (t.aP true true true)):(pD t).Perm ((ms.filter rz).map λm=>(2336,m.at_)):=by
 have b:=sup_spec true true true t g;rw [if_pos rfl]at b;have a:=congrArg (List.map λp:Nat×Int=>((2336:Int),p.2)) b;rw [gA,gA]at a;have e:pD t=((t.aP true true true).filter sQ).map λc=>(2336,c.2.1):=a.symm;rw [e];have h:=(P.symm.filter sQ).map λc:Core=>((2336:Int),c.2.1);refine h.trans ?_;rw [CQ,gA];exact oU _
def Ln{a:Type}(p:a->Bool)(ls:List (List a)):(ls.flatten).filter p=(ls.map (List.filter p)).flatten:=by rw [List.filter_flatten]
def mR.om(U:mR L lo l rl body LP func az qa st):(((l.map uC).map n_).flatten).Perm (wW (e9 l)):=by
 have e:wW (e9 l)=(l.map λp=>(p.aM.map λs=>(s.2.filter rz).map λm=>((2336:Int),m.at_)).flatten).flatten:=by
  simp only [wW,e9,flat,List.filter_flatten,List.map_flatten,gA]
  congr 1
  refine List.map_congr_left λp a=> ?_;simp only [Function.comp_apply,List.filter_flatten,List.map_flatten,gA];rfl
 rw [e,gA];refine mT l λp a=> ?_;exact mT p.aM λs b=>by
  have Q:=((U.prs.par p a).seg s b).1;exact qy Q.aG Q.perm
def mR.Di(U:mR L lo l rl body LP func az qa st):(wW (e9 l)).length<=28:=by
 rw [<-U.om.length_eq];have one:∀p ∈ l,(n_ (uC p)).length<=14:=λp j=>by
  have P:=U.prs.par p j;have:∀d:List (T×List Mk),(∀s ∈ d,(pD s.1).length<=2)->((d.map λs=>pD s.1).flatten).length<=2*d.length:=λd=>by
   induction d with
   |nil=>intro _;exact(gP _)
   |cons s d f=>
    intro h;have a:=h s (.head _);have b:=f λz g=>h z (.tail _ g);rw [cP,iX,cC,cV];exact cD λc=>bx (jt _ _ _) (AN aE (AN aI (AN (.mulL 2 (AN bg aA)) aA))) (AN (.num 2) (AN (.mulL 2 bg) (AN aE aI))) (aH a (aH b c)) rfl
  have h:=this p.aM λs o=>by
   have Q:=(P.seg s o).1;rw [(qy Q.aG Q.perm).length_eq,bN];have q:(s.2.filter rz).length<=(s.2.filter (·.sort==1)).length:=by
    have:s.2.filter rz=(s.2.filter (·.sort==1)).filter (·.w1):=by rw [List.filter_filter];congr 1;funext m;exact Bool.and_comm _ _
    rw [this];exact yq _ _
   have:=Q.MZ;exact zt q this
  have:=P.len;show((p.aM.map λs=>pD s.1).flatten).length<=14;exact cD λc=>bx (fL _ _) (AN aE (AN aI (AN aI (AN (.num 14) aA)))) (AN (.mulL 2 aI) (AN (.num 7) (AN (.num 7) aE))) (aH h (aH this (aH this c))) rfl
 have:∀e:List PX,(∀p ∈ e,(n_ (uC p)).length<=14)->(((e.map uC).map n_).flatten).length<=14*e.length:=λe=>by
  induction e with
  |nil=>intro _;exact(gP _)
  |cons p e f=>
   intro h;have a:=h p (.head _);have b:=f λz g=>h z (.tail _ g);rw [cP,cP,iX,cC,cV];exact cD λc=>bx (jt _ _ _) (AN aE (AN aI (AN (.mulL 14 (AN bg aA)) aA))) (AN (.num 14) (AN (.mulL 14 bg) (AN aE aI))) (aH a (aH b c)) rfl
 have n:=this l one;have t:=U.prs.few;exact cD λc=>bx (fL _ _) (AN aE (AN (.mulL 14 aI) (AN (.num 28) aA))) (AN (.mulL 14 aI) (AN (.mulL 14 (.num 2)) aE)) (aH n (aH (fJ 14 t) c)) rfl
end
section
variable{L:Lay}{lo:Nat}{l:List PX}{rl:List (T×List Mk)}{body LP func:T}{az:Bool}{qa:Nat}{fields:Int}{mem:List T}{ML cls bcl aF:T}{st S:St}
def lR.Je(X:lR L lo l rl body LP func az qa fields mem ML cls bcl aF st):(((l.map uC).map n_).flatten).Nodup:=by
 rw [X.lT.om.nodup_iff];refine ez X.R5 λaL B=> ?_;have h:=(List.pairwise_append.mp B.Cw.1).1;have c:((e9 l).filter rz).Pairwise λa b=>a.at_<b.at_:=List.Pairwise.sublist List.filter_sublist h;rw [wW,List.nodup_iff_pairwise_ne,List.pairwise_map];exact c.imp λh e=>by simp at e;exact dJ (xU _ _) (AI (AI bH ck) jr) (AI jr bH) (bE h (Int.le_of_eq e.symm)) rfl
section
variable(N:Nd L lo l rl body LP func az qa fields mem ML cls bcl aF st S)
include N
theorem Nd.yR{n:T}(j:n ∈ body.gM):∃m ∈ flat rl,rz m=true/\m.a=n.a:=by
 have U:=N.x.lT;have d:=sup_spec true true true body U.jT;rw [if_pos rfl]at d;have:EI n ∈((body.aP true true true).filter sQ).map Ir:=by rw [d];exact List.mem_map.mpr ⟨n,j,rfl⟩
 refine aB (List.mem_map.mp this) λc h e=> ?_;refine cR (List.mem_filter.mp h) λf b=> ?_;refine aB (List.mem_map.mp (U.iP.mem_iff.mpr f)) λm g a=> ?_;subst a;simp only [Prod.mk.injEq]at e;exact⟨m,g,b,e.1⟩
theorem Nd.yS{m:Mk}(b:m ∈ flat rl)(c:rz m=true):∃n ∈ body.gM,n.a=m.a:=by
 have U:=N.x.lT;have a:=sup_spec true true true body U.jT;rw [if_pos rfl]at a;have:Ir (core m) ∈ body.gM.map EI:=by
  rw [<-a];exact List.mem_map.mpr ⟨core m,List.mem_filter.mpr ⟨U.iP.mem_iff.mp (List.mem_map.mpr ⟨m,b,rfl⟩),c⟩,rfl⟩
 refine aB (List.mem_map.mp this) λn d e=> ?_;simp only [Prod.mk.injEq]at e;exact⟨n,d,e.1⟩
theorem Nd.kL:body.gM.length=((flat rl).filter rz).length:=by
 have U:=N.x.lT;have h:=(qy U.jT U.iP).length_eq;simpa using h
theorem Nd.Aw:(lO (num aF.ids) body).isEmpty=(((flat rl).filter rz).filter (·.w0)).isEmpty:=by
 rw [Ad,List.isEmpty_iff,List.isEmpty_iff,Dj,Dj];constructor
 .intro h m b a;refine cR (List.mem_filter.mp b) λc f=> ?_;refine aB (N.yS c f) λn d e=> ?_;exact h n d (by rw [e,(N.held c).2.1];exact a)
 .intro h n d a;refine eG (N.yR d) λm b g e=> ?_;rw [<-e,(N.held b).2.1]at a;exact h m (List.mem_filter.mpr ⟨b,g⟩) a
theorem Nd.F0{m:Mk}(a:m ∈ flat rl):∃s ∈ rl,m ∈ s.2/\m.a ∈ s.1.ids/\m.row=(m.sort==1&&dK true s.1 m.a):=by
 refine aB (List.mem_flatten.mp a) λms b a=> ?_;refine aB (List.mem_map.mp b) λs d c=> ?_;subst c;have Q:=(N.x.lT.rws.row s d).1;exact⟨s,d,a,Q.mem a,Q.row m a⟩
theorem F1{ν:Nat->Int}{U:List Nat}(hi:zP ν U){t:T}(g:∀a ∈ t.ids,a ∈ U){x:Nat}(j:x ∈ U):nZ ν x t=dK true t x:=by
 cases t with
 |mk a at_ k f s ai=>
  dsimp only [nZ,dK,T.kind,T.ai]
  cases ai with
  |z=>rfl
  |no r=>rfl
  |c e r=>
   have d:=g _ (by
    dsimp only [T.aU,TL.cG];exact gh _ (nT _ (dF e _ (sU e))))
   congr 1
   rw [Ad];simp only [beq_iff_eq];exact⟨λh=>hi.inj _ d _ j h,λh=>by rw [h]⟩
theorem F2{t:T}{x:Nat}(h:dK true t x=true):x ∈ t.dir:=by
 cases t with
 |mk a at_ k f s ai=>
  simp only [dK,T.kind,T.ai,cM,beq_iff_eq]at h
  cases ai with
  |z=>simp at h
  |no r=>simp at h
  |c e r=>
   refine cR h λd g=> ?_;have e0:e0 k=true:=by rw [d];decide
   have b:e.bare.a=x:=by simpa using g
   rw [T.lJ,if_pos e0,TL.ye,<-b];exact gh _ (nT _ (sU e))
theorem Nd.Jf:(((rl.map (·.1)).map T.ids).flatten).Nodup:=by
 have:=N.x.lT.rws.nd;rw [gA];exact this
theorem Nd.Jg:((lO (num aF.ids) body).any λn=>(rl.map (·.1)).any (nZ (num aF.ids) n.a))= !(((flat rl).filter rz).filter (·.row)).isEmpty:=by
 have X:=N.x;have w:=gX X.nd;have d:∀s ∈ rl,∀a ∈ s.1.ids,a ∈ aF.ids:=λs c=>N.uB (bT aF (X.FL c) X.iy);have G:∀s ∈ rl,∀a ∈ s.1.dir,a ∈ body.dir:=λs c a J=>by
  refine cO X.lT.bd λb t e=> ?_;have:body.dir=b::(mO (rl.map (·.1))).dir:=by rw [e,T.lJ,if_pos (by decide)]
  rw [this,mE,mP];exact gh _ (List.mem_flatten.mpr ⟨_,List.mem_map.mpr ⟨s.1,List.mem_map.mpr ⟨s,c,rfl⟩,rfl⟩,J⟩)
 rw [Ad,C6,CN];constructor
 .rintro ⟨n,v,H⟩
  refine cR (List.mem_filter.mp v) λD M=> ?_;refine aB (List.any_eq_true.mp H) λt E g=> ?_;refine aB (List.mem_map.mp E) λu q A=> ?_;subst A;refine eG (N.yR D) λm f p e=> ?_;refine iN (N.F0 f) λs c y j k=> ?_;rw [<-e,F1 N w (d u q) (d s c _ j)]at g;have C:=dF _ _ (F2 N g);have es:u.1=s.1:=by
   refine Jh λne=> ?_;exact PV (rl.map (·.1)) N.Jf (List.mem_map.mpr ⟨u,q,rfl⟩) (List.mem_map.mpr ⟨s,c,rfl⟩) ne C j
  rw [es]at g;have z:(m.sort==1)=true:=by
   have:=p;simp only [rz,cM]at this;exact this.1
  have o:m.row=true:=by rw [k,z,g];rfl
  rw [List.isEmpty_eq_false_iff_exists_mem];exact⟨m,List.mem_filter.mpr ⟨List.mem_filter.mpr ⟨f,p⟩,o⟩⟩
 .intro h;rw [List.isEmpty_eq_false_iff_exists_mem]at h;refine ez h λm f=> ?_;refine cR (List.mem_filter.mp f) λf o=> ?_;refine cR (List.mem_filter.mp f) λf p=> ?_;refine iN (N.F0 f) λs c y j k=> ?_;rw [k,cM]at o;refine aB (N.yS f p) λn v e=> ?_;refine⟨n,List.mem_filter.mpr ⟨v,?_⟩,List.any_eq_true.mpr ⟨s.1,List.mem_map.mpr ⟨s,c,rfl⟩,?_⟩⟩
  .rw [e,jY w (d s c _ j) λx I=>N.uB X.iy _ (dF body x I)];simpa using G s c _ (F2 N o.2)
  .rw [e,F1 N w (d s c) (d s c _ j)];exact o.2
theorem Nd.F3(b:az=true):(jJ mem (l.map (·.t))).length=(l.filter λp=>jD p.pat p.flags).length:=by
 rw [jJ,N.find,if_pos b,Option.isSome_some,if_pos rfl,CQ,bN]
 congr 1
 refine List.filter_congr λp a=> ?_;exact(N.FZ a).1
abbrev mU(fields:Int)(az:Bool)(l:List PX):Bool:=(fields==1)||(az&&decide ((l.filter λp=>jD p.pat p.flags).length>0))
theorem Nd.Ji(a:0<=fields/\fields<3):C1 mem (l.map (·.t))=mU fields az l:=by
 rw [C1,N.Jb a]
 congr 1
 cases hm:az
 .rw [jJ,N.find,hm,if_neg (by simp)];rfl
 .rw [N.F3 hm];rfl
theorem Nd.Jj(b:0<=fields/\fields<3):nD (num aF.ids) func body mem ((l.map uC).map (·.t)) (rl.map (·.1))=E5 func.at_ (flat rl) (mU fields az l):=by
 have a:(l.map uC).map (·.t)=l.map (·.t):=by simp
 rw [a,nD,E5,N.Aw,N.Ji b,N.Jg,Bool.not_not]
theorem Nd.Jk:nE func body=if 1<((flat rl).filter rz).length then [(12,func.at_)]else []:=by
 rw [nE,N.kL]
end
end
section
variable{KS:KS}{L:Lay}{lo:Nat}{l:List PX}{rl:List (T×List Mk)}{body LP func:T}{az seen:Bool}{qa qb:Nat}{fields w:Int}{mem:List T}{ML cls bcl aF:T}{st S cur:St}{v0:Option V}{x g o n0:Nat}{syms:List (Nat×T)}
def ne_bool{C:aR}{m:Loc}{st:St}{K:KV}{a b:IE}{p q:Bool}(k:∀K:KV,(∀c,st <+: c->K (.bool p) c)->vE C a m st K)(j:∀d,st <+: d->∀K:KV,K (.bool q) d->vE C b m d K)(h:∀c,st <+: c->K (.bool (p != q)) c):vE C (.cmp .ne a b) m st K:=by
 refine k _ λf e=>j f e _ ?_;exact h f e
def F4(N:Nd L lo l rl body LP func az qa fields mem ML cls bcl aF st S)(c9:L.k<st.length){i:Nat}{m:Mk}(hi:(e9 l++flat rl)[i]? =some m)(j:S <+: cur)(hc:Cx n0 (num aF.ids) cur x g o syms cls)
  (H:∀s ∈ syms,Rep lo st.length (num aF.ids) S s.2/\s.2.kind=61) {sf:Option (Nat×T)} (hf:syms.find? (λs=>num aF.ids s.2.a==num aF.ids cls.a)=sf) (hs:∀y,sf=some y->y.2=cls) (b1:sf.isNone= !seen)
  (hk:S[L.k]? =some (.list ((e9 l++flat rl).map λm=> .ref m.h))) {D E G Y a0 Q J v22 I v z:Option V}
  (h:∀c v z,cur <+: c->KS .next (let ne:=(e9 l).length;(fr v0 L az seen fields w qa ne qb body func [D,some (.int (i:Nat)),E,G,Y,a0,Q,J,some (.ref x),v22,none,none,I,v,z,none,none,none,none,none,none,none,none,none])) c):
  vB (aq 59) F5 (let ne:=(e9 l).length;(fr v0 L az seen fields w qa ne qb body func [D,some (.int (i:Nat)),E,G,Y,a0,Q,J,some (.ref x),v22,none,none,I,v,z,none,none,none,none,none,none,none,none,none])) cur KS:=by
 have d:=nR hi;have M:=(N.By d).pre j;refine pA M.node λk w' q f en=> ?_;have b2:=ak j hk;have X:=N.x;have U:=X.lT;have a7:i<(e9 l++flat rl).length:=by
  refine a_ (oO i (e9 l++flat rl).length) (λh=> ?_) λh=> ?_
  .exact h
  .rw [zT h]at hi;cases hi
 have bW:(e9 l++flat rl).length<=200:=by have j1:=U.prs.rA;have j2:=U.bW;rw [cC];exact cD λzz=>bx (fL _ _) (AN aE (AN aI (AN (.num 200) aA))) (AN (.num 154) (AN (.num 33) (AN aE aI))) (aH j1 (aH j2 zz)) rfl
 have Sl:=j.length_le;have Nl:=N.len;rw [F5,ah,cL,jH];refine aj rfl _ ?_;refine aj rfl _ ?_;simp only [b2];rw [if_neg (LW _),se,yj,hi];refine⟨⟨(zm _),(zu (zt (zt a7 bW) (bI rfl)))⟩,(iT _),?_⟩;dsimp only [aa,ah,cL];refine aK (λK' h'=>gS rfl (aj rfl) M.hit rfl (bI rfl) h') en rfl ?_;simp only [gB,cB,cA];have d1:met (num aF.ids) (num aF.ids m.a) body.dir=(decide ((i:Int)≥((e9 l).length:Nat))&&m.w0):=by
  rw [List.getElem?_append]at hi;split at hi
  .rename_i b0;refine rQ ((N.early (nR hi)).2.1) ?_;have: ¬((i:Int)≥((e9 l).length:Nat)):=Int.not_le.mpr (Int.ofNat_lt.mpr b0);rw [decide_eq_false this,Ab]
  .rename_i a9;refine rQ ((N.held (nR hi)).2.1) ?_;have:((i:Int)≥((e9 l).length:Nat)):=Int.ofNat_le.mpr (cD a9);rw [decide_eq_true this,uA]
 have d2:met (num aF.ids) (num aF.ids m.a) (dz func.ai.aN)=m.w0:=by
  refine a_ (List.mem_append.mp d) (λh=> ?_) λh=> ?_
  .exact(N.early h).2.2
  .exact(N.held h).2.2
 have sz:=U.sizes;have b:∀(C:aR) (u:St) (mm:Loc) (K:KV),cur <+: u->mm[26]? =some (some (.ref m.h))->K (.bool m.w0) u->vE C (.sub (.l 26) (.n 2)) mm u K:=λC u mm K p hm h=>gS rfl (aj hm) (ak p M.hit) rfl (bI rfl) h;dsimp only [aa,ah,j6,xZ,uJ];refine ne_bool (p:=met (num aF.ids) (num aF.ids m.a) body.dir) (q:=decide ((i:Int)≥((e9 l).length:Nat))&&m.w0) (λK h=> ?_) (λs1 t K h=> ?_) λs1 t=> ?_
 .rw [cJ,aW];refine aj rfl _ ?_;rw [aW];refine aj rfl _ ?_;dsimp only [cy];exact Em ((N.rep X.iy).pre j) (zt Nl Sl) (zt (za sz.1 1) (zr 399878)) h
 .refine fu (λK h=> ?_) (λK h=>b _ _ _ _ t rfl h) h;dsimp only [d_];refine aj rfl _ ?_;refine aj rfl _ ?_;exact h
 .rw [d1,bne_self_eq_false];dsimp only [bY];dsimp only [x9];refine ne_bool (p:=met (num aF.ids) (num aF.ids m.a) (dz func.ai.aN)) (λK h=> ?_) (λs2 A K h=>b _ _ _ _ (t.trans A) rfl h) λs2 A=> ?_
  .rw [cJ,aW];refine aj rfl _ ?_;rw [aW];refine aj rfl _ ?_;dsimp only [cy];exact En ((N.rep X.pK).pre (j.trans t)) (by have:=t.length_le;exact zt (zt Nl Sl) this) (zt (za sz.2.2 1) (zr 399276)) h
  rw [d2,bne_self_eq_false,bz];dsimp only;dsimp only [au,aa,ah,j6];have e:=t.trans A;refine ne_bool (p:=sf.isNone||(mem.filter jf).any λn=>met (num aF.ids) (num aF.ids m.a) (dz n.ai.aN)) (q:= !seen||(az&&m.w0)) (λK h=> ?_) (λs3 p3 K h=> ?_) λs3 p3=> ?_
  .dsimp only [cJ,aW];refine aj rfl _ ?_;dsimp only [aW,bV,aW];refine aj rfl _ ?_;exact Mv ((hc.pre t).pre A) (N.Lm.pre (j.trans e)) (by have:=e.length_le;exact zt (zt Nl Sl) this) (λn hn=>by have:=X.size.2 n hn;exact zt (za this 1) (zr 399276)) (λs hs=>⟨(H s hs).1.pre (j.trans e),(H s hs).2⟩) hf hs h
  .refine Bm (λK h=> ?_) (λK h=> ?_) h
   .dsimp only [uY];refine aj rfl _ ?_;dsimp only [bz];exact h
   .exact fu (λK h=>aj rfl _ h) (λK h=>b _ _ _ _ (e.trans p3) rfl h) h
  .rw [b1,N.FW d,bne_self_eq_false,bz];dsimp only;refine iN (N.tree d) λn na rn gn a8=> ?_;have a:=e.trans p3;refine ne_bool (p:=ji n) (q:=m.sort==1) (λK h=> ?_) (λs4 p4 K h=> ?_) λs4 p4=> ?_
   .dsimp only [cJ,aW];refine gS rfl (aj rfl) (ak a M.hit) rfl (bI rfl) ?_;rw [cy,<-na];exact Ej (rn.pre (j.trans a)) gn (h _ (bS _))
   .dsimp only [d_];refine gS rfl (aj rfl) (ak (a.trans p4) M.hit) rfl (bI rfl) ?_;exact h
   .rw [a8,bne_self_eq_false,bz];dsimp only;exact h s4 _ _ (a.trans p4)
end
def Dk{lo hi step:Int}(k:0<=lo)(a:0<step):∃m:List Nat,eY lo hi step=m.map (λi:Nat=>V.int (i:Int))/\∀i ∈ m,(i:Int)<hi:=by
 refine⟨(List.range ((hi-lo+step-1)/step).toNat).map λj:Nat=>(lo+(j:Int)*step).toNat,?_,?_⟩
 .rw [eY,gA];refine List.map_congr_left λj b=> ?_;have:0<=(j:Int)*step:=Int.mul_nonneg (iT _) (uz a);exact congrArg V.int (Int.toNat_of_nonneg (Int.add_nonneg k this)).symm
 .intro i e;refine aB (List.mem_map.mp e) λj d f=> ?_;subst f;rw [List.mem_range]at d;have c:=Int.lt_toNat.mp d;have h:((j:Int)+1)*step<=hi-lo+step-1:=by
   have:=(Int.le_ediv_iff_mul_le a).mp c;exact this
  have n:((j:Int)+1)*step=(j:Int)*step+step:=by rw [Int.add_mul,Int.one_mul]
  have:0<=(j:Int)*step:=Int.mul_nonneg (iT _) (uz a);rw [Int.toNat_of_nonneg (Int.add_nonneg k this)];rw [n]at h;exact Int.not_le.mp λb=>(dJ (T8 _ _ _ _) (AI (AI D3 jr) Tj) (AI (.sub (AI (.sub Tj bH) jr) ck) (AI bH D3)) (bE h b) rfl)
section
variable{KS:KS}{L:Lay}{lo:Nat}{l:List PX}{rl:List (T×List Mk)}{body LP func:T}{az seen:Bool}{qa qb:Nat}{fields w:Int}{mem:List T}{ML cls bcl aF:T}{st S:St}{v0:Option V}{x g o n0:Nat}{syms:List (Nat×T)}
def F6(N:Nd L lo l rl body LP func az qa fields mem ML cls bcl aF st S)(Q:L.k<st.length)
  (Y:∀s ∈ syms,Rep lo st.length (num aF.ids) S s.2/\s.2.kind=61) {sf:Option (Nat×T)} (hf:syms.find? (λs=>num aF.ids s.2.a==num aF.ids cls.a)=sf) (hs:∀y,sf=some y->y.2=cls) (U:sf.isNone= !seen)
  (hk:S[L.k]? =some (.list ((e9 l++flat rl).map λm=> .ref m.h))) {t u E G H C A D z:Option V}:
  ∀(I:List Nat) (f:St) (q n d:Option V),(∀i ∈ I,i<(e9 l++flat rl).length)->S <+: f->Cx n0 (num aF.ids) f x g o syms cls->
  (∀c q n d,f <+: c->KS .next (let ne:=(e9 l).length;(fr v0 L az seen fields w qa ne qb body func [t,q,u,E,G,H,C,A,some (.ref x),D,none,none,z,n,d,none,none,none,none,none,none,none,none,none])) c)->
  bC (λm st k=>vB (aq 59) F5 m st k) (λv m=>some (m.set 14 (some v))) none (I.map λi:Nat=>V.int (i:Int)) (let ne:=(e9 l).length;(fr v0 L az seen fields w qa ne qb body func [t,q,u,E,G,H,C,A,some (.ref x),D,none,none,z,n,d,none,none,none,none,none,none,none,none,none])) f KS:=by
 intro zl
 induction zl with
 |nil=>
  intro f q n d hb J M h;exact⟨trivial,h f q n d (bS _)⟩
 |cons i I zi=>
  intro f q n d hb J M h;refine⟨trivial,?_⟩;refine F4 N Q (gO (hb i (.head _))) J M Y hf hs U hk λc n d p=> ?_;exact zi c _ _ _ (λj hj=>hb j (.tail _ hj)) (J.trans p) (M.pre p) λc' a b e p'=>h c' a b e (p.trans p')
end
def Jl{d lo hi:Nat}{ν:Nat->Int}{st:St}{K:KV}{t:T}(r:Rep lo hi ν st t)(m:t.kind=27)(v:arrow t.flags=false)(h:∀b u,st <+: b->b[u]? =some (.list [])->K (.ref u) b):aq (d+3) 34 [.ref t.a] st K:=by
 refine aS (bD r) λw q A g y=> ?_;have k:∀(a:St) (K:KV),st <+: a->K (.bool false) a->aq (d+2) 32 [.ref t.a] a K:=λa K p h=>by
  refine call_in Ek [some (.ref t.a)] ?_ (by decide) rfl rfl rfl;dsimp only [Ek,ah,fZ,sq,nP];refine bZ (aj rfl) (ak p g) rfl vY ?_;have e:b_ .eq t.kind 18=false:=by rw [m];decide
  rw [e];dsimp only [bY];dsimp only [ao,ay];exact h
 refine call_in Ex [some (.ref t.a),none,none,none,none] ?_ (by decide) rfl rfl rfl;rw [Ex,ah,cL,fQ,cy];refine⟨(gP _),?_⟩;simp only [cB,cA];dsimp only [aa,ah,cL,fQ,aW];refine aj rfl _ ?_;dsimp only [cy];refine⟨(zb rfl),?_⟩;simp only [cB,cA];dsimp only [aa,ah,Bl];have S:SK st lo st.length ν (st++ [O.list []]).length [t] (st++ [O.list []]++ [O.list [V.ref t.a]])\/True:= .inr trivial;have j:(st++ [O.list []]++ [O.list [V.ref t.a]])[(st++ [O.list []]).length]? =some (.list [V.ref t.a]):=aD;have g1:(st++ [O.list []]++ [O.list [V.ref t.a]])[st.length]? =some (.list []):=bQ aD;have x:st <+: st++ [O.list []]++ [O.list [V.ref t.a]]:=cE (eE _ _);refine⟨2,?_⟩;rw [lI];simp only [bq,cF,bM,tr,bY,j,List.isEmpty_cons,Bool.not_false];rw [Ew,ah,cL,D8,bq];simp only [cF,bM,j,List.getLast?_singleton,List.dropLast_singleton,cB,cA];have pw:st <+:(st++ [O.list []]++ [O.list [V.ref t.a]]).set (st++ [O.list []]).length (.list []):=fM x al;have l:((st++ [O.list []]++ [O.list [V.ref t.a]]).set (st++ [O.list []]).length (.list []))[(st++ [O.list []]).length]? =some (.list []):=bh j;have n:((st++ [O.list []]++ [O.list [V.ref t.a]]).set (st++ [O.list []]).length (.list []))[st.length]? =some (.list []):=aT (by simp) g1;generalize (st++ [O.list []]++ [O.list [V.ref t.a]]).set (st++ [O.list []]).length (.list [])=c at pw l n ⊢;rw [aa,ah];refine aV false (λo h'=>by
  rw [cJ,aW];refine aj rfl _ ?_;rw [cy];exact k c o pw h') ?_
 rw [if_neg (by decide),au,aa,ah];have f:=ak pw g;refine aV false (λo h'=>fu (λK h=>bZ (aj rfl) f rfl kG h)
  (λK h=>Bm (λK h=>bZ (aj rfl) f rfl jV h) (λK h=>by
   dsimp only [vE,vL,cF,bM,kH];refine sj (r.pre pw) ?_;have:(Builtin.bitAnd t.flags 4 != 0)=arrow t.flags:=by
    dsimp only [arrow,bne];by_cases z:Builtin.bitAnd t.flags 4=0<;>simp [z]
   rw [this];exact h) h) (by rw [m,v];exact h')) ?_
 rw [if_neg (by decide),au,aa,au,aQ,lI];simp only [cF,bM,l,List.isEmpty_nil,Bool.not_true];dsimp only [aa,ah,fZ];refine aj rfl _ ?_;dsimp only [ao,ay];exact h c _ pw n
section
variable{K:KV}{L:Lay}{lo:Nat}{l:List PX}{rl:List (T×List Mk)}{body LP func:T}{az seen:Bool}{qa qb:Nat}{fields w:Int}{mem:List T}{ML cls bcl aF:T}{st S cur:St}{v0:Option V}{x g o n0 rl' nl:Nat}{syms:List (Nat×T)}
def Jm(N:Nd L lo l rl body LP func az qa fields mem ML cls bcl aF st S)(G:L.k<st.length)(hw:0<=w/\w<3)(Y:S <+: cur)(hc:Cx n0 (num aF.ids) cur x g o syms cls)
  (a0:∀s ∈ syms,Rep lo st.length (num aF.ids) S s.2/\s.2.kind=61) {sf:Option (Nat×T)} (hf:syms.find? (λs=>num aF.ids s.2.a==num aF.ids cls.a)=sf) (hs:∀y,sf=some y->y.2=cls) (H:sf.isNone= !seen)
  (I:S[L.k]? =some (.list ((e9 l++flat rl).map λm=> .ref m.h))) {q k t C D E A z v:Option V} {KS:KS}
  (h:∀c k Q a1 M,cur <+: c->vB (aq 59) Jo (let ne:=(e9 l).length;(fr v0 L az seen fields w qa ne qb body func [q,k,t,C,D,E,A,z,some (.ref x),Q,none,none,v,a1,M,none,none,none,none,none,none,none,none,none])) c KS):
  vB (aq 59) FO (let ne:=(e9 l).length;(fr v0 L az seen fields w qa ne qb body func [q,k,t,C,D,E,A,z,some (.ref x),none,none,none,v,none,none,none,none,none,none,none,none,none,none,none])) cur KS:=by
 have U:=N.x.lT;have bW:(e9 l++flat rl).length<=200:=by have j1:=U.prs.rA;have j2:=U.bW;rw [cC];exact cD λf=>bx (fL _ _) (AN aE (AN aI (AN (.num 200) aA))) (AN (.num 154) (AN (.num 33) (AN aE aI))) (aH j1 (aH j2 f)) rfl
 have u:=ak Y I;dsimp only [FO,ah,cL,j8,bV,j8,jh];refine aj rfl _ ?_;simp only [u,bV,bv_add,BN,bN];refine⟨⟨(Int.not_le.mp λf=>dJ (fP 0) (.num 4) jb f rfl),(Dd (Int.not_le.mp λf=>dJ (fP _) (AI bH jb) (AI (.num (-9223372036854775808)) bH) (bE f (iT _)) rfl) (Int.not_le.mp λf=>dJ (fP _) (AI bH (.num 9223372036854775808)) (AI (.num 200) bH) (bE (Int.ofNat_le.mpr bW) f) rfl))⟩,?_⟩;simp only [gB,cB,cA];generalize n:(1:Int)+((e9 l++flat rl).length:Int)/4=step;have j:0<step/\step<1000:=n▸⟨Int.add_pos_of_pos_of_nonneg (by decide) (Int.ediv_nonneg (iT _) (by decide)),yN (Int.add_lt_add_of_le_of_lt (Int.le_refl 1) (Int.lt_of_le_of_lt (Int.ediv_le_self 4 (iT _)) (Int.ofNat_lt.mpr (Nat.lt_succ_of_le bW)))) (by decide:(1:Int)+((201:Nat):Int)<=1000)⟩;dsimp only [aa,ah,iu,C4];dsimp only [cy,aW,bq,bV,jh,j8];dsimp only [bv_add,D9,BN,lU,R7,R8,cF,bM];simp only [u,bN];have h2:0<=step/2/\step/2<1000:=⟨Int.ediv_nonneg (uz j.1) (by decide),Int.lt_of_le_of_lt (Int.ediv_le_self 2 (uz j.1)) j.2⟩;have hm:=Int.emod_nonneg (w+step/2) (show step≠0 from ux j.1);have J:=Int.emod_lt_of_pos (w+step/2) j.1;refine⟨⟨(Int.not_le.mp λf=>dJ (fP 0) (.num 2) jb f rfl),(Dd (Int.not_le.mp λf=>dJ (fP _) (AI (AI jb ck) bH) (AI bH (.num (-9223372036854775808))) (bE j.1 f) rfl) (Int.not_le.mp λf=>dJ (fP _) (AI (AI bH ck) (.num 9223372036854775808)) (AI (.num 1000) bH) (bE j.2 f) rfl))⟩,j.1,⟨(CD (Int.not_le.mp λf=>dJ (fP _) (AI jb bH) (AI bH (.num (-4611686018427387904))) (bE hm f) rfl) (Int.not_le.mp λf=>dJ (xU _ _) (AI (AI bH ck) (AI (AI jr ck) (.num 4611686018427387904))) (AI (.num 1000) (AI bH jr)) (bE j.2 (bE J f)) rfl)),(CD (Int.not_le.mp λf=>dJ (fP _) (AI bH jb) (AI (.num (-4611686018427387904)) bH) (bE f (iT _)) rfl) (Int.not_le.mp λf=>dJ (fP _) (AI bH (.num 4611686018427387904)) (AI (.num 200) bH) (bE (Int.ofNat_le.mpr bW) f) rfl)),j.1,(Int.not_le.mp λf=>dJ (fP _) (AI (AI bH ck) (.num 4611686018427387904)) (AI (.num 1000) bH) (bE j.2 f) rfl)⟩,?_⟩;refine aB (Dk (hi:=((e9 l++flat rl).length:Int)) hm j.1) λis e hb=> ?_;refine rQ e ?_;refine F6 N G a0 hf hs H I is cur _ _ _ (λi hi=>by exact Int.ofNat_lt.mp (hb i hi)) Y hc λc a b d p=> ?_;exact h c a _ b d p
end
section
variable{K:KV}{L:Lay}{lo:Nat}{l:List PX}{rl:List (T×List Mk)}{body LP func:T}{az seen:Bool}{qa qb:Nat}{fields w:Int}{mem:List T}{ML cls bcl aF:T}{st S cur:St}{v0:Option V}{x g o n0 rl' nl:Nat}{syms:List (Nat×T)}
def Jp(N:Nd L lo l rl body LP func az qa fields mem ML cls bcl aF st S)(d:S <+: cur)(hk:S[L.k]? =some (.list ((e9 l++flat rl).map λm=> .ref m.h))){J Y Q v16 a8 a9 a6 a2 M a7 a1 a0 a5:Option V}{KS:KS}
  (h:∀c qh,cur <+: c->cur.length<=qh->c[qh]? =some (.list ((flat rl).map λm=> .ref m.h))->vB (aq 59) Jq (let ne:=(e9 l).length;(fr v0 L az seen fields w qa ne qb body func [J,Y,Q,v16,a8,a9,a6,a2,M,a7,some (.ref qh),none,a1,a0,a5,none,none,none,none,none,none,none,none,none])) c KS):
  vB (aq 59) Jo (let ne:=(e9 l).length;(fr v0 L az seen fields w qa ne qb body func [J,Y,Q,v16,a8,a9,a6,a2,M,a7,none,none,a1,a0,a5,none,none,none,none,none,none,none,none,none])) cur KS:=by
 have X:=N.x;have U:=X.lT;have n:=U.bW;have bW:(e9 l++flat rl).length<=200:=by have:=U.prs.rA;rw [cC];exact cD λf=>bx (fL _ _) (AN aE (AN aI (AN (.num 200) aA))) (AN (.num 33) (AN (.num 154) (AN aI aE))) (aH n (aH this f)) rfl
 have sz:=U.sizes;have A:=d.length_le;have v:=N.len;have hU:=gX X.nd;refine rS U.Rf λf n2 f f n5=> ?_;refine eS ((N.rep X.iy).gR) λf wb f1 fb tb eb=> ?_;refine eS ((N.rep X.pK).gR) λf wf qf ff tf ef=> ?_;have I:func.a ∈ func.ids:=by rw [<-jm];exact List.mem_map.mpr ⟨func,pI func,rfl⟩
 have H:body.a ∈ body.ids:=by rw [<-jm];exact List.mem_map.mpr ⟨body,pI body,rfl⟩
 have d1:met (num aF.ids) (num aF.ids body.a) body.dir=true:=by
  refine rQ (jY hU (N.uB X.iy _ H) λy t=>N.uB X.iy _ (dF body y t)) ?_;refine ez (su body) λz e=> ?_;rw [e];simp
 have d2:met (num aF.ids) (num aF.ids func.a) (dz func.ai.aN)=false:=by
  have e:dz func.ai.aN=LP.dir++body.dir:=by rw [U.fN.1];simp [TL.oY,TL.eZ,TL.dW,dz]
  rw [e,jY hU (N.uB X.pK _ I) λy t=> ?_]
  .have h1:=U.Rf.2.2.2.1;have:func.a ∉ LP.dir++body.dir:=λk=>(List.mem_append.mp k).elim (λh=>h1 (dF LP _ h)) λh=>n5 (dF body _ h);exact decide_eq_false this
  .refine a_ (List.mem_append.mp t) (λt=> ?_) λt=> ?_
   .exact N.uB X.k_ _ (dF LP y t)
   .exact N.uB X.iy _ (dF body y t)
 rw [Jo,ah,j6,xZ,uJ,uY,cJ,aW];refine aj rfl _ ?_;refine aK (aj rfl) (ak d eb) rfl ?_;refine Em ((N.rep X.iy).pre d) (zt v A) (zt (za sz.1 1) (zr 399878)) λc1 D=> ?_;refine rQ d1 ?_;refine rQ bz ?_;refine rQ Bool.not_true ?_;dsimp only [bY];rw [uJ,cJ,aW];refine aj rfl _ ?_;refine aK (aj rfl) (ak (d.trans D) ef) rfl ?_;refine En ((N.rep X.pK).pre (d.trans D)) (by have:=D.length_le;exact zt (zt v A) this) (zt (za sz.2.2 1) (zr 399276)) λc2 p2=> ?_;refine rQ d2 ?_;dsimp only [bY];have ar:arrow func.flags=false:=by rw [U.fN.2.2];cases az<;>decide
 dsimp only [x9,d_,jh,cJ,aW];refine aj rfl _ ?_;refine Jl ((N.rep X.pK).pre ((d.trans D).trans p2)) U.fN.2.1 ar λE u3 p3 e3=> ?_;simp only [e3,bV,cv,b_,cY];refine rQ bz ?_;have z0:decide (((0:Nat):Int)>0)=false:=by decide
 refine rQ z0 ?_;dsimp only;have G:=(D.trans p2).trans p3;dsimp only [au,aa,ah,cL,Lj];refine aj rfl _ ?_;refine aj rfl _ ?_;simp only [ak (d.trans G) hk];refine⟨by have:=U.prs.rA;exact⟨(Int.not_lt.mp λf=>dJ (fP _) (AI (AI bH ck) jb) (AI jb bH) (bE f (iT _)) rfl),(Int.not_le.mp λf=>dJ (fP _) (AI bH (.num 4611686018427387904)) (AI (.num 154) bH) (bE (Int.ofNat_le.mpr this) f) rfl)⟩,?_⟩;have ed:List.drop (((e9 l).length:Nat):Int).toNat ((e9 l++flat rl).map λm=>V.ref m.h)=(flat rl).map λm=>V.ref m.h:=by
  rw [se,List.map_append,show(e9 l).length=((e9 l).map λm=>V.ref m.h).length from(bN _).symm,List.drop_left]
 refine rQ ed ?_;simp only [gB,cB,cA];have q:cur <+: E++ [O.list ((flat rl).map λm=>V.ref m.h)]:=cE G;have C:(E++ [O.list ((flat rl).map λm=>V.ref m.h)])[E.length]? =some (.list ((flat rl).map λm=>V.ref m.h)):=aD;have l3:=G.length_le;generalize E++ [O.list ((flat rl).map λm=>V.ref m.h)]=c4 at q C ⊢;have l4:=q.length_le;have B:=N.Jd.pre (d.trans q);have mk:∀m ∈ flat rl,sW (num aF.ids) S m:=λm k=>N.By (ry _ k);refine pC rfl (λK h=>BA B (zt (zt v A) l4) (aj rfl) h)
  (λs1 b K h=>kh (.inr (.inl rfl)) rfl (λK h=>by simp only [cy,aW,iU,jR];exact h) (ak b C) (λm k=>(mk m k).pre ((d.trans q).trans b)) (zt n (zr 27)) rfl h) λs1 b=> ?_
 refine pC rfl (λK h=> ?_)
  (λs2 j K h=>kh (sorts:=[3]) (.inl rfl) rfl (λK h=>by simp only [cy,aW,iU,xj];exact h) (ak (b.trans j) C) (λm k=>(mk m k).pre (((d.trans q).trans b).trans j)) (zt n (zr 27)) rfl h) λs2 j=> ?_
 .dsimp only [cJ,aW,cJ,aW];refine aj rfl _ ?_;have rb:=(N.rep X.iy).pre ((d.trans q).trans b);refine L2 rb (by have:=b.length_le;exact zt (zt (zt v A) l4) this) (zt (za sz.1 1) (zr 399878)) λs3 u3 p f a3=> ?_;rw [wO]at a3;have er:=Ac body;refine pn (ν:=num aF.ids) a3 (λa ha=> ?_) ?_ λs4 u4 q4 a4=>h s4 u4 (p.trans q4) ?_
  .rw [er,U.xg]at ha;refine aB (List.mem_map.mp ha) λc hc b4=> ?_;subst b4;exact pB (rb.pre p) _ (mG (List.mem_filter.mp hc).1)
  .rw [er,U.xg,bN];have h1:=yq fY (body.aP true true true);have h2:=U.iP.length_eq;rw [bN]at h2;exact zt (zt (zt (za h1 1) (za (zf h2) 1)) (za n 1)) (zr 899966)
  .rw [a4,wQ,ES (N.inc X.iy) U.iP U.xg]
 refine pC rfl (λK h=>yt ((B.pre b).pre j) (by have:=(b.trans j).length_le;exact zt (zt (zt v A) l4) this) (aj rfl) h)
  (λs3 p K h=>kh (.inr (.inr rfl)) rfl (λK h=>by simp only [cy,aW,iU,jR,gT];exact h) (ak ((b.trans j).trans p) C) (λm k=>(mk m k).pre ((((d.trans q).trans b).trans j).trans p)) (zt n (zr 27)) rfl h) λs3 p=> ?_
 exact h s3 E.length (((q.trans b).trans j).trans p) l3 (ak ((b.trans j).trans p) C)
end
def F7{C:aR}{m:Loc}{K:KV}{st:St}{qa:Nat}{fields:Int}{az:Bool}{l:List PX}(y:m[5]? =some (some (.int fields)))(u:m[3]? =some (some (.bool az)))(v:m[7]? =some (some (.ref qa)))(d:36<m.length)(f:st[qa]? =some (.list (l.map PX.val)))(n:l.length<=2)(h:∀c,st <+: c->K (.bool (mU fields az l)) c):
  vE C (.qP (.d (.q 5 1) (.dh (.d (.l 3) (.cmp .gt (.len (.comp (.l 36) 36 (.seq (.l 7)) (.e (.sub (.l 36) (.n 3))))) (.n 0)))))) m st K:=by
 refine fU (b:=fields==1) y rfl ?_;cases hf:(fields==1)
 .dsimp only [bY];dsimp only [x9,sq,nP];refine aj u _ ?_;cases az
  .dsimp only [bY];have:=h st (bS _);rw [mU,hf]at this;exact this
  .dsimp only [bY];dsimp only [jd,d_,jh,ig,h_];refine aj v _ ?_;simp only [f];refine dQ PX.val (λp=>if jD p.pat p.flags=true then some p.val else none) l f (zt (za n 1) (zr 899997)) (λp j cur q K h=> ?_) (λp j w a cur q K h=> ?_) λt k e1=> ?_
   .have:=h cur (bS _);rw [iD]at this;dsimp only [jd,jH];refine aj (vN d) _ ?_;exact⟨by decide,by decide,this⟩
   .cases hc:jD p.pat p.flags
    .rw [hc]at a;cases a
    .rw [hc,if_pos rfl]at a;cases a;refine aj (vN d) _ ?_;exact h cur (bS _)
   .simp only [e1];dsimp only [bV];have:=h t k;rw [eF,bN];dsimp only [j5,b_];have e:decide (((l.filter λp=>jD p.pat p.flags).length:Int)>0)=decide ((l.filter λp=>jD p.pat p.flags).length>0):=by
     congr 1
     exact Pr
    rw [e];rw [mU,hf]at this;exact this
 .dsimp only [bY];have:=h st (bS _);rw [mU,hf]at this;exact this
section
variable{K:KV}{L:Lay}{lo:Nat}{l:List PX}{rl:List (T×List Mk)}{body LP func:T}{az seen:Bool}{qa qb qh ne:Nat}{fields w:Int}{mem:List T}{ML cls bcl aF:T}{st S cur:St}{v0:Option V}{x g o n0 rl' nl:Nat}{syms:List (Nat×T)}
def Dl(N:Nd L lo l rl body LP func az qa fields mem ML cls bcl aF st S)(hk:S[L.k]? =some (.list ((e9 l++flat rl).map λm=> .ref m.h))){z G C E Y a0 Q J v21 U a1 D I H M:Option V}{KS:KS}:
  ∀(ps:List PX) (cur:St) (u v t n:Option V),(∀p ∈ ps,p ∈ l)->S <+: cur->
  (∀c u v t n,cur <+: c->KS .next ((fr v0 L az seen fields w qa ne qb body func [z,G,C,E,Y,a0,Q,J,v21,U,a1,D,I,H,M,u,v,t,n,none,none,none,none,none])) c)->
  bC (λm st k=>vB (aq 59) M3 m st k) (kZ [28,29,30,31]) (some (qa,l.map PX.val)) (ps.map PX.val) ((fr v0 L az seen fields w qa ne qb body func [z,G,C,E,Y,a0,Q,J,v21,U,a1,D,I,H,M,u,v,t,n,none,none,none,none,none])) cur KS:=by
 intro zl
 induction zl with
 |nil=>
  intro cur u v t n hp j h;simp only [qg,uO];exact⟨ak j (N.ls _ _ N.x.lT.Ov),h cur _ _ _ _ (bS _)⟩
 |cons p ps zi=>
  intro cur u v t n hp j h;simp only [cP,uP];refine⟨ak j (N.ls _ _ N.x.lT.Ov),?_⟩;have y:=hp p (.head _);have P:=N.x.lT.prs.par p y;refine lM (N.x.lT.prs.off p y) λA B e hA=> ?_;refine cO P.shape λa at_ sh=> ?_;have sz:=P.size;have Sl:=j.length_le;have Nl:=N.len;dsimp only [kZ,kM,gB,cB,cA];rw [M3,ah,j6,uY,cJ,aW];refine aj rfl _ ?_;rw [aW];refine aj rfl _ ?_;rw [aW];refine aj rfl _ ?_;rw [aW];refine aj rfl _ ?_;dsimp only [cy];refine Mg (zt Nl Sl) (ak j hk) (by rw [hA];exact ak j (N.ls _ _ P.out)) (by rw [e];exact(fW ..)) (λs hs=>(N.seg y hs).pre j) ((N.rep (bT aF (N.x.qw y) N.x.k_)).pre j) (zt (za sz 1) (zr 399699)) (by rw [sh];rfl) P.wf P.ini P.len λc pc=> ?_;dsimp only [bz,Bool.not_true,bz];dsimp only [au,aa,au,aQ];exact zi c _ _ _ _ (λq hq=>hp q (.tail _ hq)) (j.trans pc) λc' a b d f p'=>h c' a b d f (pc.trans p')
def Jr(N:Nd L lo l rl body LP func az qa fields mem ML cls bcl aF st S)(M:0<=fields/\fields<3)(q:S[L.k]? =some (.list ((e9 l++flat rl).map λm=> .ref m.h)))(Q:nA S (num aF.ids) n0 x g o rl' nl syms cls [] [] cur)
  (d:rl'<qh/\nl<qh) (G:cur[qh]? =some (.list ((flat rl).map λm=> .ref m.h))) {k C n D E z u A t H v:Option V} (h:∀c,S <+: c->K (.bool true) c):
  vB (aq 59) Jq (let ne:=(e9 l).length;(fr v0 L az seen fields w qa ne qb body func [k,C,n,some (.ref cls.a),D,E,z,u,some (.ref x),A,some (.ref qh),none,t,H,v,none,none,none,none,none,none,none,none,none])) cur (oM K):=by
 have b:=Q.pre;have U:=N.x.lT;dsimp only [Jq,ah,Lf,h_];refine aj rfl _ ?_;simp only [ak b (N.ls _ _ U.Ov)];refine Dl N q l cur _ _ _ _ (λp hp=>hp) b λc1 a6 a7 a4 a5 y=> ?_;rw [aa,ah,cL];refine F7 rfl rfl rfl (bP _) (ak (b.trans y) (N.ls _ _ U.Ov)) U.prs.few λY J=> ?_;simp only [gB,cB,cA];rw [aa,ah,fZ,cJ,aW];refine aj rfl _ ?_;rw [aW];refine aj rfl _ ?_;rw [aW];refine aj rfl _ ?_;rw [aW,Ll];refine aj rfl _ ?_;refine aj rfl _ ?_;have a:=y.trans J;simp only [ak (b.trans a) q];have ml:=U.prs.rA;have hl:=U.bW;refine⟨⟨(iT _),(zu (zt (za ml 1) (bI rfl)))⟩,?_⟩;have ed:List.take (((e9 l).length:Nat):Int).toNat ((e9 l++flat rl).map λm=>V.ref m.h)=(e9 l).map λm=>V.ref m.h:=by
  rw [se,List.map_append,show(e9 l).length=((e9 l).map λm=>V.ref m.h).length from(bN _).symm,List.take_left]
 rw [ed,aW];refine aj rfl _ ?_;dsimp only [aW];refine aj rfl _ ?_;dsimp only [cy];refine eG Q.rs λds e0 e1 zz=> ?_;have lr:=aJ e1;have ln:=aJ Q.ns;have QZ:=a.length_le;have j:cur <+: Y++ [O.list ((e9 l).map λm=>V.ref m.h)]:=cE a;refine IU N.T7 (Q.more j) N.x.Je aD (ak j G) ⟨(zg (zt lr QZ)),(zg (zt ln QZ))⟩ ⟨(zg d.1),(zg d.2)⟩ (λm f=>N.By (nT _ f)) (λm f=>N.By (ry _ f)) (zt ml (zr 746)) (zt hl (zr 27)) (by have:=U.Di;exact zt this (zr 32)) ?_ N.Jk λc4 I=> ?_
 .rw [N.Jj M];exact U.om.append_right _
 .dsimp only [ao,ay];exact h c4 I
end
section
variable{L:Lay}{lo:Nat}{l:List PX}{rl:List (T×List Mk)}{body LP func:T}{az seen:Bool}{qa:Nat}{fields:Int}{mem:List T}{ML cls bcl aF:T}{st S:St}
def lR.two(X:lR L lo l rl body LP func az qa fields mem ML cls bcl aF st):cls.a ∈ aF.ids/\bcl.a ∈ aF.ids/\bcl.a≠cls.a/\cls.kind=61/\bcl.kind=61:=by
 have nd:=X.nd;refine cO X.ro λa t e=> ?_;refine gG X.cl λb u b1 g b2 j e1=> ?_;refine gG X.bc λc w k w1 f w2 e2=> ?_;rw [e,T.aU,TL.cG,TL.cG,TL.aU,fK]at nd ⊢;have d:cls.a ∈ cls.ids:=by rw [e1];exact(.head _)
 have hb:bcl.a ∈ bcl.ids:=by rw [e2];exact(.head _)
 refine⟨by simp [d],by simp [hb],λh=> ?_,by rw [e1];rfl,by rw [e2];rfl⟩;rw [lG,nc]at nd;exact nd.2.2.2 _ hb _ d h
end
def M4{n:List Int}(bW:n.length<=63):aq 60 59 [.ref 0] [.iw (n.map V.int)] λv b=>v= .bool true:=by
 refine De bW λL l rl body LP func az qa qb fields w seen mem ML cls bcl aF st I p J M X t A hl=> ?_;refine X.number λb S N=> ?_;refine ez X.R5 λaL B=> ?_;refine rS X.two λz D ne E H=> ?_;have c:=N.ls _ _ B.marks;refine I5 (N.rep X.xe) N.len λk x g o n0 j nl s1 u a2 a0 U Q=> ?_;have inj:=(gX X.nd).inj;have C:(num aF.ids bcl.a==num aF.ids cls.a)=false:=by
  rw [beq_eq_false_iff_ne];exact λh=>ne (inj _ D _ z h)
 refine Jm (sf:=if seen=true then some (u,cls)else none) N (by have:=aJ B.marks;exact this) A Q.pre Q.cx (λs a=> ?_) ?_ (λy m=> ?_) ?_ c λc1 p a1 a3 Y d=> ?_
 .refine a_ (List.mem_cons.mp a) (λe=> ?_) λa=> ?_
  any_goals subst e
  .exact⟨N.rep X.MT,H⟩
  .cases seen
   .cases a
   .rw [List.mem_singleton.mp a];exact⟨N.rep X.xe,E⟩
 .rw [List.find?_cons_of_neg (by simp [C])];cases seen<;>simp
 .cases seen
  .cases m
  .cases m;rfl
 .cases seen<;>rfl
 refine Jp N (Q.pre.trans d) c λc2 qh q f e2=> ?_;have G:j<k.length:=by obtain ⟨ds,_,e1,_⟩:=Q.rs;exact aJ e1
 have ln:=aJ Q.ns;have l1:=d.length_le;exact Jr N t c (Q.more (d.trans q)) ⟨(zt (zt G l1) f),(zt (zt ln l1) f)⟩ e2 λb b=>rfl
end Mine
end
theorem PySem.Challenge.cw_up0037_01_holds : PySem.Challenge.rw_up0037_01.Holds :=
  Mine.join fun _ h => Mine.M4 h
