import PyProof.Rows.All
import Wide.All
import OpenK.AllK
import Wide.FinOn
import OpenK.KGet
import KE.KLam
import PyProof.ReprRoads
import PyProof.Rows.MinMaxN
import KE.KDictList
import KE.KDictSum
import KE.KDictOf
import PyProof.Rows.SortWalk
import PyProof.Rows.SortStr
import PyProof.Conv_int
import PyProof.MeetsStr
import PyProof.DictDisplay
import PyProof.RangeFor
import PyProof.DictIter
import PyProof.TupleIter
import PyProof.ForAny
import PyProof.CompMap
import PyProof.WalksMore
import PyProof.DictWalks
import KE.KPar
import KE.KNestM
import PyProof.StrLoop
import PyProof.StrBlock
import PyProof.Rows.Chain
import Lean
import PySem.Challenge.RW_nt0111_01
set_option Elab.async false
set_option genSizeOf false
set_option bootstrap.genMatcherCode false
set_option genInjectivity false
set_option genCtorIdx false
set_option autoImplicit true
set_option linter.all false
set_option tactic.hygienic false
noncomputable section
namespace Mine.Internal
universe u0 u1 u2 u3 u4 u5 u6 u7
section
open PySem PySem.W PyProof.Rows PySem.Calls PySem.SeqAt
def QC:=@wpAny_bind
def QD:=@wpAny_pure
def QE:=@wpAny_holding
def QF:=@Nat.le_antisymm
def QG:=@Nat.le_of_ble_eq_true
def QH:=@Nat.ble_eq_true_of_le
def QI:=@List.length_append
def QJ:=@List.length_map
def QK:=@List.length_cons
def QL:=@List.length_reverse
def QM:=@if_pos
def QN:=@if_neg
def QO:=@decide_eq_true
def QP:=@decide_eq_false
def QQ:=@Nat.le_trans
def QR:=@Nat.le_refl
def QS:=@Nat.lt_succ_self
def QT:=@Nat.eq_of_beq_eq_true
def QU:=@Nat.le_succ_of_le
def QV:=@List.map_cons
def QW:=@Nat.lt_of_lt_of_le
def QX:=@Array.length_toList
def QY:=@Nat.ne_of_lt
def QZ:=@List.map_map
def Q0:=@List.mem_cons
def Q3:=@Nat.succ_le_succ
def Q4:=@Nat.add_assoc
def Q5:=@List.append_assoc
end
section
variable{Z:Prop}
theorem xA{P Q:Prop}(h:P/\Q)(k:P->Q->Z):Z:=h.elim k
theorem xE{P:a->Prop}(h:∃x,P x)(k:∀x,P x->Z):Z:=h.elim k
theorem fp{P Q R:Prop}(h:P/\Q/\R)(k:P->Q->R->Z):Z:=h.elim fun x h=>xA h (k x)
theorem an{P Q:a->Prop}(h:∃x,P x/\Q x)(k:∀x,P x->Q x->Z):Z:=h.elim fun x h=>xA h (k x)
theorem ij{P:a->b->Prop}(h:∃x y,P x y)(k:∀x y,P x y->Z):Z:=h.elim fun x h=>xE h (k x)
theorem fi{P Q R S:Prop}(h:P/\Q/\R/\S)(k:P->Q->R->S->Z):Z:=h.elim fun x h=>fp h (k x)
theorem og{P:Prop}{Q R:a->Prop}(h:P/\(∃x,Q x/\R x))(k:P->∀x,Q x->R x->Z):Z:=h.elim fun x h=>an h (k x)
theorem x5{P:Prop}{Q:a->b->Prop}(h:P/\(∃x y,Q x y))(k:P->∀x y,Q x y->Z):Z:=h.elim fun x h=>ij h (k x)
theorem bP{P Q R:a->Prop}(h:∃x,P x/\Q x/\R x)(k:∀x,P x->Q x->R x->Z):Z:=h.elim fun x h=>fp h (k x)
theorem dy{P Q:a->b->Prop}(h:∃x y,P x y/\Q x y)(k:∀x y,P x y->Q x y->Z):Z:=h.elim fun x h=>an h (k x)
theorem ez{P Q R S T:Prop}(h:P/\Q/\R/\S/\T)(k:P->Q->R->S->T->Z):Z:=h.elim fun x h=>fi h (k x)
theorem bA{P Q R S:a->Prop}(h:∃x,P x/\Q x/\R x/\S x)(k:∀x,P x->Q x->R x->S x->Z):Z:=h.elim fun x h=>fi h (k x)
theorem bV{P Q R:a->b->Prop}(h:∃x y,P x y/\Q x y/\R x y)(k:∀x y,P x y->Q x y->R x y->Z):Z:=h.elim fun x h=>bP h (k x)
theorem m5{P Q:a->b->c->Prop}(h:∃x y z,P x y z/\Q x y z)(k:∀x y z,P x y z->Q x y z->Z):Z:=h.elim fun x h=>dy h (k x)
theorem kK{P:Prop}{Q R S T:a->Prop}(h:P/\(∃x,Q x/\R x/\S x/\T x))(k:P->∀x,Q x->R x->S x->T x->Z):Z:=h.elim fun x h=>bA h (k x)
theorem cR{P Q R S T:a->Prop}(h:∃x,P x/\Q x/\R x/\S x/\T x)(k:∀x,P x->Q x->R x->S x->T x->Z):Z:=h.elim fun x h=>ez h (k x)
theorem br{P Q R S:a->b->Prop}(h:∃x y,P x y/\Q x y/\R x y/\S x y)(k:∀x y,P x y->Q x y->R x y->S x y->Z):Z:=h.elim fun x h=>bA h (k x)
theorem aI{P Q R:a->b->c->Prop}(h:∃x y z,P x y z/\Q x y z/\R x y z)(k:∀x y z,P x y z->Q x y z->R x y z->Z):Z:=h.elim fun x h=>bV h (k x)
theorem gk{P Q R S T U:a->Prop}(h:∃x,P x/\Q x/\R x/\S x/\T x/\U x)(k:∀x,P x->Q x->R x->S x->T x->U x->Z):Z:=h.elim fun x h=>h.elim fun y h=>ez h (k x y)
theorem gY{P Q R S T:a->b->Prop}(h:∃x y,P x y/\Q x y/\R x y/\S x y/\T x y)(k:∀x y,P x y->Q x y->R x y->S x y->T x y->Z):Z:=h.elim fun x h=>cR h (k x)
theorem eK{P Q R S:a->b->c->Prop}(h:∃x y z,P x y z/\Q x y z/\R x y z/\S x y z)(k:∀x y z,P x y z->Q x y z->R x y z->S x y z->Z):Z:=h.elim fun x h=>br h (k x)
theorem eO{P Q R:a->b->c->d->Prop}(h:∃x y z u,P x y z u/\Q x y z u/\R x y z u)(k:∀x y z u,P x y z u->Q x y z u->R x y z u->Z):Z:=h.elim fun x h=>aI h (k x)
theorem bf{P Q R S T U:a->b->Prop}(h:∃x y,P x y/\Q x y/\R x y/\S x y/\T x y/\U x y)(k:∀x y,P x y->Q x y->R x y->S x y->T x y->U x y->Z):Z:=h.elim fun x h=>gk h (k x)
theorem bI{P Q R S T U:a->b->c->Prop}(h:∃x y z,P x y z/\Q x y z/\R x y z/\S x y z/\T x y z/\U x y z)(k:∀x y z,P x y z->Q x y z->R x y z->S x y z->T x y z->U x y z->Z):Z:=h.elim fun x h=>bf h (k x)
theorem da{P Q R:a->b->c->d->e->f->g->Prop}(h:∃x y z u v w t,P x y z u v w t/\Q x y z u v w t/\R x y z u v w t)(k:∀x y z u v w t,P x y z u v w t->Q x y z u v w t->R x y z u v w t->Z):Z:=h.elim fun x h=>h.elim fun y h=>h.elim fun z h=>eO h (k x y z)
theorem gZ{P Q R S T U V W:a->b->c->d->Prop}(h:∃x y z u,P x y z u/\Q x y z u/\R x y z u/\S x y z u/\T x y z u/\U x y z u/\V x y z u/\W x y z u)(k:∀x y z u,P x y z u->Q x y z u->R x y z u->S x y z u->T x y z u->U x y z u->V x y z u->W x y z u->Z):Z:=h.elim fun x h=>h.elim fun y h=>h.elim fun z h=>h.elim fun u h=>h.elim fun v h=>h.elim fun w h=>h.elim fun t h=>ez h (k x y z u v w t)
end
theorem sj{α:Type _}{a b:α}(e:some a=some b):a=b:=Option.some.inj e
@[elab_as_elim] theorem iS{α:Type _}{P:Option α->Prop}(o:Option α)(n:o=none->P none)(s:∀x,o=some x->P (some x)):P o:=Option.rec (motive:=fun z=>o=z->P z) n s o rfl
@[elab_as_elim] theorem con{α:Type _}{P:Option α->Prop}(o:Option α)(n:P none)(s:∀x,P (some x)):P o:=Option.rec (motive:=P) n s o
@[elab_as_elim] theorem fE{P:Bool->Prop}(o:Bool)(n:o=true->P true)(s:o=false->P false):P o:=Bool.rec (motive:=fun z=>o=z->P z) s n o rfl
@[elab_as_elim] theorem rt{P:Bool->Prop}(o:Bool)(n:P true)(s:P false):P o:=Bool.rec (motive:=P) s n o
@[elab_as_elim] theorem qX{ε α:Type _}{P:Except ε α->Prop}(o:Except ε α)(n:∀x,o=.error x->P (.error x))(s:∀x,o=.ok x->P (.ok x)):P o:=Except.rec (motive:=fun z=>o=z->P z) n s o rfl
@[elab_as_elim] theorem Qm{ε α:Type _}{P:Except ε α->Prop}(o:Except ε α)(n:∀x,P (.error x))(s:∀x,P (.ok x)):P o:=Except.rec (motive:=P) n s o
@[elab_as_elim] theorem Pl{α:Type _}{P:List α->Prop}(o:List α)(n:o= []->P [])(s:∀x r,o=x::r->P (x::r)):P o:=List.rec (motive:=fun z=>o=z->P z) n (fun x r _=>s x r) o rfl
@[elab_as_elim] theorem JT{α:Type _}{P:List α->Prop}(o:List α)(n:P [])(s:∀x r,P (x::r)):P o:=List.rec (motive:=P) n (fun x r _=>s x r) o
theorem mW{α0:Sort u0}{β:Sort u7}{u:β}{f:α0->β}{P0:α0->Prop}{Z:β->Prop}(h:∃x0,P0 x0/\f x0=u)(k:∀x0,P0 x0->Z (f x0)):Z u:=h.elim fun x0 h=>h.elim fun a1 (h:f x0=u)=>h▸k x0 a1
@[elab_as_elim] theorem bt{α:Type _}{P:α->Prop}{a b:α}(e:some a=some b)(h:P a):P b:=sj e▸h
theorem pj{α β:Type _}{a c:α}{b d:β}(e:some (a,b)=some (c,d)):a=c/\b=d:=Prod.mk.inj (sj e)
theorem zh{α β:Type _}{P:α->β->Prop}{a c:α}{b d:β}(e:(a,b)=(c,d))(h:P a b):P c d:=(Prod.mk.inj e).1▸(Prod.mk.inj e).2▸h
theorem wW{α β:Type _}{P:α->β->Prop}{a c:α}{b d:β}(e:some (a,b)=some (c,d))(h:P a b):P c d:=zh (sj e) h
@[elab_as_elim] theorem MG{ε α:Type _}{P:α->Prop}{a b:α}(e:(.ok a:Except ε α)=.ok b)(h:P a):P b:=Except.ok.inj e▸h
@[elab_as_elim] theorem Qz{ε α:Type _}{P:ε->Prop}{a b:ε}(e:(.error a:Except ε α)=.error b)(h:P a):P b:=Except.error.inj e▸h
@[elab_as_elim] theorem aQ{α:Sort _}{P:α->Prop}{a b:α}(e:a=b)(h:P a):P b:=e▸h
theorem px{ε α:Type _}{a:ε}{b:α}{Z:Prop}(e:(.error a:Except ε α)=.ok b):Z:=nomatch e
theorem mc{α:Type _}{Z:Prop}{a b:α}{l:List α}(h:a∈b::l)(n:a=b->Z)(s:a∈l->Z):Z:=(List.mem_cons.mp h).elim n s
@[elab_as_elim] theorem pQ{α:Type _}{P:α->Prop}{a b:α}{l:List α}(h:a∈b::l)(n:P b)(s:a∈l->P a):P a:=(List.mem_cons.mp h).elim (fun e=>e▸n) s
@[elab_as_elim] theorem J{α:Sort _}{P:α->Prop}{a b:α}(e:a=b)(h:P b):P a:=e▸h
@[elab_as_elim] theorem jj{P:Prop->Prop}{a b:Prop}(e:a↔b)(h:P b):P a:=(propext e)▸h
@[elab_as_elim] theorem Qy{P:Prop->Prop}{a b:Prop}(e:a↔b)(h:P a):P b:=(propext e)▸h
namespace LL
inductive LE
 |v (i:Nat)|n (k:Nat)|a (x y:LE)|m (k:Nat) (x:LE)|s (x:LE)
def gA(c:List Nat):Nat->Nat:=@List.rec Nat (fun _=>Nat->Nat) (fun _=>0) (fun x _ ih i=>@Nat.rec (fun _=>Nat) x (fun j _=>ih j) i) c
def dn(c:List Nat)(e:LE):Nat:=@LE.rec (fun _=>Nat) (gA c) (fun k=>k) (fun _ _ x y=>x+y) (fun k _ x=>k*x) (fun _ x=>Nat.succ x) e
def dE{α:Type}(f:Nat):Nat->(LE->Nat->α)->α:=@Nat.rec (fun _=>Nat->(LE->Nat->α)->α) (fun c k=>k (.n 0) c)
 (fun _ ih c k=>@Nat.rec (fun _=>α) (ih (c / 64) fun x c=>ih c fun y c=>k (.a x y) c) (fun t _=>@Nat.rec (fun _=>α) (ih (c / 262144) fun x d=>k (.m (c / 64 % 4096) x) d)
  (fun t _=>@Nat.rec (fun _=>α) (ih (c / 64) fun x c=>k (.s x) c) (fun t _=>@Nat.rec (fun _=>α) (k (.n (c / 64 % 64)) (c / 4096)) (fun t _=>@Nat.rec (fun _=>α) (k (.n (c / 64 % 1073741824)) (c / 68719476736)) (fun t _=>k (.v t) (c / 64)) t) t) t) t) (c % 64)) f
def fu:Nat:=30
def sk(d:Nat):Nat:=d / 262144
def s4(d:Nat):Nat:=d / 16777216
def kd(k a b:Nat):Prop:=@Nat.rec (fun _=>Prop) (a<=b) (fun k _=>@Nat.rec (fun _=>Prop) (a < b) (fun k _=>@Nat.rec (fun _=>Prop) (a=b) (fun k _=>@Nat.rec (fun _=>Prop) (¬a<=b) (fun k _=>@Nat.rec (fun _=>Prop) (¬a < b) (fun k _=>@Nat.rec (fun _=>Prop) (a=b) (fun _ _=>False) k) k) k) k) k) k
def hy(c:List Nat)(g:Prop)(n:Nat):Nat->Prop:=@Nat.rec (fun _=>Nat->Prop) (fun _=>g) (fun _ ih d=>dE fu (sk d) fun x e=>dE fu e fun y e=>kd (d % 64) (dn c x) (dn c y)->ih e) n
def tt(n:Nat):(List Nat->Prop)->Prop:=@Nat.rec (fun _=>(List Nat->Prop)->Prop) (fun f=>f []) (fun _ ih f=>∀x,ih fun l=>f (x::l)) n
noncomputable def T(d:Nat):Prop:=tt (d % 64) fun c=>dE fu (s4 d) fun x e=>dE fu e fun y e=>hy c (kd (d / 64 % 64) (dn c x) (dn c y)) (d / 262144 % 64) e
def dot(p:List Nat):(Nat->Nat)->Nat:=@List.rec Nat (fun _=>(Nat->Nat)->Nat) (fun _=>0) (fun k _ ih f=>k*f 0+ih fun i=>f (i+1)) p
def pa(p:List Nat):List Nat->List Nat:=@List.rec Nat (fun _=>List Nat->List Nat) (fun q=>q) (fun k p ih q=>@List.rec Nat (fun _=>List Nat) (k::p) (fun j q _=>(k+j)::ih q) q) p
def pm(k:Nat)(p:List Nat):List Nat:=p.map (k* ·)
def pu(i:Nat):List Nat:=@Nat.rec (fun _=>List Nat) [1] (fun _ p=>0::p) i
def nm(e:LE):List Nat:=@LE.rec (fun _=>List Nat) (fun i=>0::pu i) (fun k=> [k]) (fun _ _ x y=>pa x y) (fun k _ x=>pm k x) (fun _ x=>pa [1] x) e
def lc(p:List Nat):List Nat->Bool:=@List.rec Nat (fun _=>List Nat->Bool) (fun _=>true) (fun k p ih q=>@List.rec Nat (fun _=>Bool) (and (Nat.beq k 0) (ih [])) (fun j q _=>and (Nat.ble k j) (ih q)) q) p
theorem cg2{a b c d:Nat}(h:a=b)(k:c=d):a+c=b+d:=by rw [h,k]
theorem Bu{a b:Bool}(h:and a b=true):a=true/\b=true:=by cases a with|true=>exact⟨rfl,h⟩|false=>exact nomatch h
theorem dot_pa(p:List Nat):∀q f,dot (pa p q) f=dot p f+dot q f:=by
 induction p with
 |nil=>exact fun q f=>(Nat.zero_add _).symm
 |cons k p ih=>
  intro q f
  cases q with
  |nil=>rfl
  |cons j q=>show(k+j)*f 0+dot (pa p q) _=(k*f 0+dot p _)+(j*f 0+dot q _);rw [ih,Nat.add_mul,Nat.add_add_add_comm]
theorem dot_pm(k:Nat)(p:List Nat):∀f,dot (pm k p) f=k*dot p f:=by
 induction p with
 |nil=>exact fun f=>rfl
 |cons j p ih=>exact fun f=>(cg2 (Nat.mul_assoc ..) (ih _)).trans (Nat.mul_add ..).symm
theorem dot_pu (i:Nat):∀f,dot (pu i) f=f i:=by
 induction i with
 |zero=>exact fun f=>Nat.one_mul _
 |succ i ih=>exact fun f=>(cg2 (Nat.zero_mul _) (ih _)).trans (Nat.zero_add _)
theorem lc_le(p:List Nat):∀q f,lc p q=true->dot p f<=dot q f:=by
 induction p with
 |nil=>exact fun q f _=>Nat.zero_le _
 |cons k p ih=>
  intro q f h
  cases q with
  |nil=>have:=ih [] (fun i=>f (i+1)) (Bu h).2;show k*f 0+dot p _<=0;rw [Nat.eq_of_beq_eq_true (Bu h).1,Nat.zero_mul,Nat.zero_add];exact this
  |cons j q=>exact Nat.add_le_add (Nat.mul_le_mul_right _ (QG (Bu h).1)) (ih q _ (Bu h).2)
theorem dot_nm(c:List Nat)(e:LE):dot (nm e) (gA (1::c))=dn c e:=by
 induction e with
 |v i=>exact(cg2 (Nat.zero_mul _) (dot_pu i _)).trans (Nat.zero_add _)
 |n k=>exact Nat.mul_one k
 |a x y h1 h2=>exact(dot_pa ..).trans (cg2 h1 h2)
 |m k x h=>exact(dot_pm ..).trans (congrArg _ h)
 |s x h=>exact(dot_pa [1] (nm x) _).trans ((congrArg _ h).trans (Nat.add_comm ..))
def sd(k:Nat)(x y:List Nat)(r:List Nat->List Nat->Bool):Bool:=@Nat.rec (fun _=>Bool) (r x y) (fun k _=>@Nat.rec (fun _=>Bool) (r (pa [1] x) y) (fun k _=>@Nat.rec (fun _=>Bool) (r x y) (fun k _=>@Nat.rec (fun _=>Bool) (r (pa [1] y) x) (fun k _=>@Nat.rec (fun _=>Bool) (r y x) (fun k _=>@Nat.rec (fun _=>Bool) (r y x) (fun _ _=>r [1] []) k) k) k) k) k) k
def ch(g:List Nat->List Nat->Bool)(n:Nat):Nat->List Nat->List Nat->Bool:=@Nat.rec (fun _=>Nat->List Nat->List Nat->Bool) (fun _ l r=>g l r) (fun _ ih d l r=>dE fu (sk d) fun x e=>dE fu e fun y e=>sd (d % 64) (nm x) (nm y) fun x y=>ih e (pa (pm (d / 64 % 4096) x) l) (pa (pm (d / 64 % 4096) y) r)) n
def gl(k m:Nat)(x y l r:List Nat):Bool:=and (not (Nat.beq k 2)) (and (not (Nat.beq k 5)) (sd k x y fun x y=>lc (pa (pm (m+1) x) r) (pa [m] (pa (pm (m+1) y) l))))
def chk(d:Nat):Bool:=dE fu (s4 d) fun x e=>dE fu e fun y e=>ch (gl (d / 64 % 64) (d / 4096 % 64) (nm x) (nm y)) (d / 262144 % 64) e [] []
def ti(n:Nat):(List Nat->Prop)->Prop:=@Nat.rec (fun _=>(List Nat->Prop)->Prop) (fun f=>f []) (fun _ ih f=>∀{x},ih fun l=>f (x::l)) n
def TI(d:Nat):Prop:=ti (d % 64) fun c=>dE fu (s4 d) fun x e=>dE fu e fun y e=>hy c (kd (d / 64 % 64) (dn c x) (dn c y)) (d / 262144 % 64) e
theorem tt_of{f:List Nat->Prop}(h:∀c,f c)(n:Nat):tt n f:=by
 induction n generalizing f with
 |zero=>exact h []
 |succ n ih=>exact fun x=>ih fun l=>h (x::l)
theorem nr{α β:Type}{P:α->β->Prop}{a:α}{b:Nat->α}{a':β}{b':Nat->β}(n:Nat)(h:P a a')(k:∀t,P (b t) (b' t)):P (@Nat.rec (fun _=>α) a (fun t _=>b t) n) (@Nat.rec (fun _=>β) a' (fun t _=>b' t) n):=@Nat.casesOn (fun n=>P (@Nat.rec (fun _=>α) a (fun t _=>b t) n) (@Nat.rec (fun _=>β) a' (fun t _=>b' t) n)) n h k
theorem dE_ind{α β:Type}{P:α->β->Prop}(f:Nat):∀(c:Nat) (k:LE->Nat->α) (k':LE->Nat->β),(∀x c,P (k x c) (k' x c))->P (dE f c k) (dE f c k'):=by
 induction f with
 |zero=>exact fun c k k' h=>h _ _
 |succ f ih=>intro c k k' h;exact nr _ (ih _ _ _ fun x c=>ih _ _ _ fun y c=>h _ _) fun t=>nr _ (ih _ _ _ fun x c=>h _ _) fun t=>nr _ (ih _ _ _ fun x c=>h _ _) fun t=>nr _ (h _ _) fun t=>nr _ (h _ _) fun t=>h _ _
theorem sd_ok{c:List Nat}{x y:LE}{r:List Nat->List Nat->Bool}{Z:Prop}(k:Nat)(h:kd k (dn c x) (dn c y))(s:sd k (nm x) (nm y) r=true)(z:∀p q,r p q=true->dot p (gA (1::c))<=dot q (gA (1::c))->Z):Z:=by
 have e1:∀z,dot (pa [1] (nm z)) (gA (1::c))=dot (nm z) (gA (1::c))+1:=fun z=>(dot_pa ..).trans (Nat.add_comm ..);rw [<-dot_nm c x,<-dot_nm c y] at h;rcases k with _|_|_|_|_|_|k
 ·exact z _ _ s h
 ·exact z _ _ s ((e1 x).symm▸h)
 ·exact z _ _ s (Nat.le_of_eq h)
 ·exact z _ _ s ((e1 y).symm▸Nat.lt_of_not_le h)
 ·exact z _ _ s (Nat.le_of_not_lt h)
 ·exact z _ _ s (Nat.le_of_eq (Eq.symm h))
 ·exact h.elim
theorem sd_gl{c:List Nat}{x y:LE}{f:List Nat->List Nat->Bool}(key:∀p q,f p q=true->dot p (gA (1::c))<=dot q (gA (1::c)))(k:Nat)(n2:not (Nat.beq k 2)=true)(n5:not (Nat.beq k 5)=true)(g:sd k (nm x) (nm y) f=true):kd k (dn c x) (dn c y):=by
 have e1:∀z,dot (pa [1] (nm z)) (gA (1::c))=dn c z+1:=fun z=>(dot_pa ..).trans ((congrArg _ (dot_nm c z)).trans (Nat.add_comm ..));rw [<-dot_nm c x,<-dot_nm c y];rcases k with _|_|_|_|_|_|k
 ·exact key _ _ g
 ·have:=key _ _ g;rwa [e1,<-dot_nm c x] at this
 ·exact nomatch n2
 ·have:=key _ _ g;rw [e1,<-dot_nm c y] at this;exact Nat.not_le_of_lt this
 ·exact Nat.not_lt_of_le (key _ _ g)
 ·exact nomatch n5
 ·exact absurd (key _ _ g) (by show¬1*1+0<=0;decide)
theorem gl_ok{c:List Nat}{x y:LE}{l r:List Nat}{k m:Nat}(h:dot l (gA (1::c))<=dot r (gA (1::c)))(g:gl k m (nm x) (nm y) l r=true):kd k (dn c x) (dn c y):=by
 have key:∀p q,lc (pa (pm (m+1) p) r) (pa [m] (pa (pm (m+1) q) l))=true->dot p (gA (1::c))<=dot q (gA (1::c)):=by intro p q w;have w:=lc_le _ _ (gA (1::c)) w;rw [dot_pa,dot_pm,dot_pa,dot_pa,dot_pm] at w;have w:(m+1)*dot p (gA (1::c))+dot r (gA (1::c))<=m+((m+1)*dot q (gA (1::c))+dot l (gA (1::c))):=QQ w (Nat.le_of_eq (by show m*1+0+_=_;rw [Nat.mul_one,Nat.add_zero]));refine Nat.le_of_not_lt fun n=>?_;have z:=Nat.mul_le_mul_left (m+1) n;rw [Nat.mul_succ] at z;omega
 exact sd_gl key k (Bu g).1 (Bu (Bu g).2).1 (Bu (Bu g).2).2
theorem ch_s (g:List Nat->List Nat->Bool) (n d:Nat) (l r:List Nat):ch g (n+1) d l r=dE fu (sk d) fun x e=>dE fu e fun y e=>sd (d % 64) (nm x) (nm y) fun x y=>ch g n e (pa (pm (d / 64 % 4096) x) l) (pa (pm (d / 64 % 4096) y) r):=rfl
theorem hy_s(c:List Nat)(g:Prop)(n d:Nat):hy c g (n+1) d=dE fu (sk d) fun x e=>dE fu e fun y e=>kd (d % 64) (dn c x) (dn c y)->hy c g n e:=rfl
theorem ch_ok{c:List Nat}{k m:Nat}{gx gy:LE}:∀(n d:Nat) (l r:List Nat),dot l (gA (1::c))<=dot r (gA (1::c))->ch (gl k m (nm gx) (nm gy)) n d l r=true->hy c (kd k (dn c gx) (dn c gy)) n d:=by
 intro n
 induction n with
 |zero=>exact fun d l r h e=>gl_ok h e
 |succ n ih=>intro d l r h;rw [ch_s,hy_s];refine dE_ind (P:=fun(a:Bool) (b:Prop)=>a=true->b) fu _ _ _ fun x e=>dE_ind (P:=fun(a:Bool) (b:Prop)=>a=true->b) fu _ _ _ fun y e=>?_;intro s hk;refine sd_ok _ hk s fun p q e2 e3=>?_;refine ih _ _ _ ?_ e2;rw [dot_pa,dot_pa,dot_pm,dot_pm];exact Nat.add_le_add (Nat.mul_le_mul_left _ e3) h
theorem lin_at(c:List Nat)(f e k m n:Nat):(dE f e fun x e=>dE f e fun y e=>ch (gl k m (nm x) (nm y)) n e [] [])=true->dE f e fun x e=>dE f e fun y e=>hy c (kd k (dn c x) (dn c y)) n e:=by refine dE_ind (P:=fun(a:Bool) (b:Prop)=>a=true->b) f _ _ _ fun x e=>dE_ind (P:=fun(a:Bool) (b:Prop)=>a=true->b) f _ _ _ fun y e=>?_;exact fun h=>ch_ok (gx:=x) (gy:=y) n e [] [] (QR _) h
theorem lin(d:Nat)(h:chk d=true):T d:=tt_of (fun c=>lin_at c fu (s4 d) (d / 64 % 64) (d / 4096 % 64) (d / 262144 % 64) h) (d % 64)
end LL
theorem lin(d:Nat)(h:LL.chk d=true):LL.T d:=LL.lin d h
theorem ai(d:Nat)(h:LL.chk d=true):LL.TI d:=LL.lin d h
theorem jw(a b:Nat):a<=a - b+b:=by omega
theorem jI{a b:Nat}(h:b<=a):a - b+b=a:=Nat.sub_add_cancel h
section
set_option maxRecDepth 100000
set_option maxHeartbeats 0
open PySem PySem.W PyProof.Rows PySem.Calls
noncomputable abbrev pN:Program:=PySem.Challenge.pw_nt0111_01
noncomputable def I5:List Stmt->Nat->Stmt
 | [],_=>.Pass ⟨0,0,0,0⟩
 |s::_,0=>s
 |_::r,n+1=>I5 r n
noncomputable def gB(i:Nat):Stmt:=I5 pN.main.body i
noncomputable def DL:Stmt->List Stmt
 |.ClassDef _ _ _ b _ _ _ _ _ _ _=>b
 |_=> []
noncomputable def xj:Stmt->Arguments
 |.FunctionDef _ a _ _ _ _ _ _ _ _=>a
 |_=>⟨[],[],none,[],[],none,[]⟩
noncomputable def AW:Stmt->List Stmt
 |.FunctionDef _ _ b _ _ _ _ _ _ _=>b
 |_=> []
noncomputable def EA:Stmt->Scope
 |.FunctionDef _ _ _ _ _ _ s _ _ _=>s
 |_=>⟨.function,[],false,false,[]⟩
noncomputable def fdOf(st:Stmt)(n q:Str)(g:Addr)(d k doc pm c ct:Value)(b:Addr):FuncData:=
 {name:=n,qualname:=q,params:=xj st,body:=.stmts (AW st),scope:=EA st,globals:=g,closure:= [],defaults:=d,kwdefaults:=k,doc:=doc,pyModule:=pm,annotations:=none,code:=c,closureTuple:=ct,builtins:=b}
noncomputable def de(P:Params)(k:Str)(t:Nat)(v:Value):DictEntry:=⟨PyData.keyHash P k,.str k t,v⟩
noncomputable abbrev N:=BT.node
noncomputable abbrev Z:=BT.nil
noncomputable def FW:Life:={}
noncomputable def sN(n:Nat):Str:=⟨⟨@Nat.rec (fun _=>Nat->List Nat) (fun _=> []) (fun _ ih n=>@Nat.rec (fun _=>List Nat) [] (fun _ _=>n % 256::ih (n / 256)) n) 64 n⟩⟩
noncomputable abbrev D6:=PySem.W.SL.s658472552662922059x5
noncomputable abbrev EX:=PySem.W.SL.s7097527257260152453x26
noncomputable abbrev wx:=PySem.W.SL.s11030030927630378310x26
noncomputable abbrev GD:=PySem.W.SL.s10062305145149207511x16
noncomputable abbrev vY:=PySem.W.SL.s17162191345867700912x4
noncomputable abbrev yb:=PySem.W.SL.s2742458400755230247x6
noncomputable abbrev Kk:=PySem.W.SL.s11443829558043349243x14
noncomputable abbrev AS:=PySem.W.SL.s14755015743595814543x17
noncomputable abbrev Ku:=PySem.W.SL.s6511155373996960695x17
noncomputable abbrev Lp:=PySem.W.SL.s12411053484034534018x21
noncomputable abbrev x9:=PySem.W.SL.s10220274742760427390x26
noncomputable abbrev uo:=PySem.W.SL.s4290257624100764138x5
noncomputable abbrev tW:=PySem.W.SL.s4860613602091757760x24
noncomputable abbrev C':=PySem.W.SL.s5946037652744460706x9
noncomputable abbrev Kw:=PySem.W.SL.s4278001404047624695x13
noncomputable abbrev Jd:=PySem.W.SL.s5160863994218179198x17
def a0:=sN 0x5f5f656d616e5f5f
def a2:=sN 0x5f5f636f645f5f
def a3:=sN 0x5f5f6567616b6361705f5f
def a4:=sN 0x5f5f726564616f6c5f5f
def a5:=sN 0x5f5f636570735f5f
def Fy:=sN 0x6e65706f
def HG:=sN 0x5f5f6e69616d5f5f
def rJ:=sN 0x5f5f736e6f697461746f6e6e615f5f
def sD:=sN 0x5f5f736e69746c6975625f5f
def rh:=sN 0x5f5f656c69665f5f
def nY:=sN 0x79702e7475632f6d69616c632f
def sY:=sN 0x5f5f6465686361635f5f
def DX:=sN 0x3e656c75646f6d3c
def fx:=sN 0x7265746972775f776f722e6573616265676170
def nX:=sN 0x6c6c61775f
def qt:=sN 0x4c41555145
def qR:=sN 0x534c494146
def Jb:=sN 0x6b
def El:=sN 0x6c696166
def jz:=sN 0x726574697257776f52
def j':=sN 0x5f5f656c75646f6d5f5f
def uS:=sN 0x5f5f656d616e6c6175715f5f
def jV:=sN 0x5f5f6f6e656e696c74737269665f5f
def f_:=sN 0x5f5f74696e695f5f
def Hi:=sN 0x65736f6c63
def FP:=sN 0x666f5f7265747369676572
def Ir:=sN 0x657375666572
def F0:=sN 0x656d616e5f6e6d756c6f63
def Iu:=sN 0x6f746e695f746c7561666564
def IC:=sN 0x736c6c756e5f6b63656863
def Fx:=sN 0x736d7265745f6b63656863
def GR:=sN 0x6469776f725f6b63656863
def Bh:=sN 0x657571696e755f6b63656863
def IP:=sN 0x666f5f79656b
def xp:=sN 0x6b63656863
def Fo:=sN 0x657265685f65766f6d6572
def HK:=sN 0x747570
def Hr:=sN 0x6469776f725f656b6174
def HL:=sN 0x6469776f725f7065656b
def GF:=sN 0x776f725f77656e
def j_:=sN 0x5f5f736574756269727474615f6369746174735f5f
def Gr:=sN 0x5f5f74696e695f5f2e726574697257776f52
def dj:=sN 0x666c6573
def yN:=sN 0x726f73727563
def n9:=sN 0x6563616c70
def xL:=sN 0x646e696b
def DP:=sN 0x6567617373656d
def tG:=sN 0x70696b73
def lI:=sN 0x656d616e
def Bq:=sN 0x746567726174
def Gw:=sN 0x656e6966
def Jg:=sN 0x74786574
def H2:=sN 0x646c6f
def FD:=sN 0x657571696e755f6b636568632e726574697257776f52
def xd:=sN 0x7461
def Mc:=sN 0x7865646e69
def C2:=sN 0x7473726966
def GZ:=sN 0x746f7073
def IF:=sN 0x6b636568632e726574697257776f52
def ud:=sN 0x796e616d
def xu:=sN 0x656372756f73
def wK:=sN 0x736563616c70
def Jv:=sN 0x6e65766967
def tO:=sN 0x6d6172676f7270
def Ct:=sN 0x656c626174
def Ji:=sN 0x646c6f74
def KJ:=sN 0x6873657266
def JO:=sN 0x736b63656863
def Kv:=sN 0x73746c7561666564
def n_:=sN 0x5f5f746369645f5f
def lB:=sN 0x5f5f6665726b6165775f5f
def jl:=sN 0x6d6172676f72702e6573616265676170
def jU:=sN 0x726f7272456573616265676150
def jQ:=sN 0x726f72724565737573694d
def ua:=sN 0x73726f7272652e6573616265676170
def wR:=sN 0x53504d554a
def Mm:=sN 0x454c6b656553
def K5:=sN 0x544c6b656553
def Kq:=sN 0x5447786449
def Ll:=sN 0x4547786449
def J0:=sN 0x544c786449
def Jr:=sN 0x454c786449
def K4:=sN 0x646e756f46
def JX:=sN 0x646e756f46746f4e
def LX:=sN 0x7463696c666e6f436f4e
def J5:=sN 0x737473697845746f4e
def LR:=sN 0x74726f53726574726f53
def Jt:=sN 0x7478654e726574726f53
def Kb:=sN 0x73776f52797469726765746e49
def HX:=sN 0x7365756c61762e6573616265676170
def lH:=sN 0x6d6172676f7250
def yf:=sN 0x534543415053
def DC:=sN 0x0d0c0b0a0920
def xZ:=sN 0x69696373615f646c6f66
def yg:=sN 0x646461
def IU:=sN 0x65726568
def xm:=sN 0x6c6562616c
def Ar:=sN 0x7265747369676572
def GX:=sN 0x746f6c73
def B1:=sN 0x65756c6176
def BM:=sN 0x6c6c756e
def G4:=sN 0x6873696e6966
def IJ:=sN 0x3170
def Gp:=sN 0x3270
def FU:=sN 0x3370
def H8:=sN 0x3470
def FT:=sN 0x6464612e6d6172676f7250
def G0:=sN 0x72657473696765722e6d6172676f7250
def Ie:=sN 0x6c6c756e2e6d6172676f7250
def yK:=sN 0x706f
def Ab:=sN 0x736e6d756c6f63
def Mb:=sN 0x73706f
def Lw:=sN 0x736574697277
def h_:=sN 0x73656c6261742e6573616265676170
def AZ:=sN 0x657079745f666f5f7974696e69666661
def m6:=sN 0x6e6d756c6f43
def mV:=sN 0x7865646e49
def Iv:=sN 0x656d616e5f65707974
def GW:=sN 0x5f5f74696e695f5f2e6e6d756c6f43
def Mq:=sN 0x746c7561666564
def GO:=sN 0x6f666e69
def Di:=sN 0x746f6f72
def L6:=sN 0x657571696e75
def KS:=sN 0x6e696769726f
def CV:=sN 0x6c7173
def Ii:=sN 0x736563616c702e7865646e49
def e_:=sN 0x31305f31313130746e5f77616c
def nT:=sN 0x656c626154
def Dr:=sN 0x6c6f6f705f77616c5f
def CN:=sN 0x656b61745f77616c5f
def C_:=sN 0x656e6f5f77616c5f
def tE:=sN 0x74656d5f77616c5f
def Du:=sN 0x64656b636568635f77616c5f
def CF:=sN 0x7475705f77616c5f
def B9:=sN 0x747265736e695f77616c5f
def Ei:=sN 0x6574616470755f77616c5f
def Gq:=sN 0x666f5f6563616c70
def zM:=sN 0x73656974696e69666661
def G1:=sN 0x73656d616e5f6e6d756c6f63
def Gi:=sN 0x73656974696e696666612e656c626154
def Ls:=sN 0x747069726373
def BL:=sN 0x6e77617264
def nJ:=sN 0x6e616c70
def zt:=sN 0x776f72
def pC:=sN 0x796177
def A7:=sN 0x73776f72
def F8:=sN 0x736177
def Hg:=sN 0x79656b
def GK:=sN 0x61
def IA:=sN 0x62
def FS:=sN 0x63
def FX:=sN 0x64
def Mn:=sN 0x65726f6d
def FV:=sN 0x7365676e616863
def wZ:=sN 0x656c6261745f77616c5f
def xK:=sN 0x7265746972775f77616c5f
def Fu:=sN 0x65646f635f747265736e695f77616c5f
def II:=sN 0x65646f635f6574616470755f77616c5f
def xg:=sN 0x7365756c61765f77616c5f
def F7:=sN 0x64657261706d6f635f77616c5f
def xV:=sN 0x73706d756a5f77616c5f
def GS:=sN 0x646165725f77616c5f
def Ij:=sN 0x65746972775f77616c5f
def Fz:=sN 0x6e75725f77616c5f
def xN:=sN 0x7379656b5f77616c5f
def xr:=sN 0x74686769725f77616c5f
def FO:=sN 0x6e776172645f77616c5f
def Iz:=sN 0x7365676e6168635f77616c5f
def Hm:=sN 0x77616c
def G8:=sN 0x726574697277
def HU:=sN 0x6574617473
def L8:=sN 0x6e727574
noncomputable def xT:Value:=.type PySem.W.SL.s2766695959194262286x5
noncomputable def xF:Value:=.type PySem.W.SL.s7174869446012820540x8
noncomputable def qT(l:List Value):Obj:=⟨xT,none,.seq ⟨l⟩ 0,⟨[]⟩⟩
noncomputable def eT:Obj:=⟨xT,none,.seq ⟨[]⟩ 0,⟨[]⟩⟩
noncomputable def sL(t:Nat)(l:List Str):List Value:=@List.rec Str (fun _=>Nat->List Value) (fun _=> []) (fun a _ ih t=>.str a t::ih (Nat.succ t)) l t
noncomputable def sT(t:Nat)(l:List Str):Obj:=⟨xT,none,.seq ⟨sL t l⟩ 0,⟨[]⟩⟩
noncomputable def nF(l:List Value):Obj:=⟨.none,none,.fields ⟨l⟩,⟨[]⟩⟩
noncomputable def eF:Obj:=nF []
noncomputable def fO(c:String)(l:List Value):Obj:=⟨.type c,none,.fields ⟨l⟩,⟨[]⟩⟩
noncomputable def cD(n q:Str)(t:Nat)(L A F:Int)(b:Bool)(r:Nat)(x:List Value)(k:Nat):Obj:=fO PySem.W.SL.s5856160107412720595x4 (.str n t::.str q (t+1)::.str nY (t+2)::.int L 0::.int A 0::.int 0 0::.int 0 0::.int F 0::.ref r::.bool b::.int 181 0::.ref (r+1)::.none::(x++ [.int k 0,.int L 0,.str nY (k+1)]))
noncomputable def cA(n q:Str)(t:Nat)(L A:Int)(r k:Nat):Obj:=cD n q t L A 3 true r [.ref (r+2),.ref (r+3),.ref (r+4)] k
noncomputable def cB(n q:Str)(t:Nat)(L:Int)(r k:Nat):Obj:=cD n q t L 0 0 false r [.none,.none,.none] k
noncomputable def cC(n q:Str)(t:Nat)(L A:Int)(r k:Nat):Obj:=cD n q t L A 3 true r [.none,.none,.ref (r+2)] k
noncomputable def gC(i j:Nat)(n q:Str):Obj:=⟨.none,none,.func (fdOf (I5 (DL (gB i)) j) n q 0 .none .none .none .none .none .none 0),⟨[]⟩⟩
noncomputable def gS(i:Nat)(n:Str):Obj:=⟨.none,none,.func (fdOf (gB i) n n 0 .none .none .none .none .none .none 0),⟨[]⟩⟩
noncomputable def fC(i j:Nat)(n q m:Str)(t r:Nat):Obj:=⟨xF,none,.func (fdOf (I5 (DL (gB i)) j) n q 3 .none .none .none (.str m t) (.ref r) .none 0),⟨[]⟩⟩
noncomputable def fD(i j:Nat)(n q:Str)(d:Nat)(m:Str)(t r:Nat):Obj:=⟨xF,none,.func (fdOf (I5 (DL (gB i)) j) n q 3 (.ref d) .none .none (.str m t) (.ref r) .none 0),⟨[]⟩⟩
noncomputable def fS(i:Nat)(n m:Str)(t r:Nat):Obj:=⟨xF,none,.func (fdOf (gB i) n n 3 .none .none .none (.str m t) (.ref r) .none 0),⟨[]⟩⟩
noncomputable def dO(P:Params)(n:Nat)(l:List (Str×Nat×Value)):Obj:=⟨.type PySem.W.SL.s14018661285674007319x4,none,.dict ⟨l.map fun x=>de P x.1 x.2.1 x.2.2⟩ n,⟨[]⟩⟩
noncomputable def mC(i j:Nat)(n q:Str)(t:Nat)(L A:Int)(r:Nat)(l:List Str)(m:Str)(u:Nat)(x:List Obj):List Obj:=eT::eF::sT (t+3) l::eT::gC i j n q::cA n q t L A r (t+3+l.length)::fC i j n q m u (r+5)::x
noncomputable def mS(i:Nat)(n:Str)(t:Nat)(L A:Int)(r:Nat)(l:List Str)(m:Str)(u:Nat)(x:List Obj):List Obj:=eT::eF::sT (t+3) l::eT::gS i n::cA n n t L A r (t+3+l.length)::fS i n m u (r+5)::x
noncomputable def iN(t:BT)(n:Nat)(l:List Obj):BT:=@List.rec Obj (fun _=>BT->Nat->BT) (fun t _=>t) (fun o _ ih t n=>ih (t.ins n o) (Nat.succ n)) l t n
noncomputable def iL(t:BT)(l:List (Nat×Obj)):BT:=@List.rec (Nat×Obj) (fun _=>BT->BT) (fun t=>t) (fun o _ ih t=>ih (t.ins o.1 o.2)) l t
def He(P:Params):BT:=iN .nil 0 [PySem.W.boot_o_0 P,PySem.W.boot_o_1 P,PySem.W.boot_o_2 P,PySem.W.boot_o_3 P,PySem.W.boot_o_4 P,PySem.W.boot_o_5 P,PySem.W.boot_o_6 P,PySem.W.boot_o_7 P,PySem.W.boot_o_8 P,PySem.W.boot_o_9 P,PySem.W.boot_o_10 P,eT,eF,cB DX DX 182 1 11 185,⟨(.type D6),none,.plain,⟨[some (.ref 13),some (.ref 3),some (.ref 3),none,some (.str HG 164),none,some (.ref 0)]⟩⟩]
def Eo(P:Params):BT:=iN (iL (He P) [(3,dO P 12 [(a0,165,.str fx 194),(a2,166,.none),(a3,167,.none),(a4,168,.builtin EX),(a5,169,.none),(rJ,170,.ref 6),(sD,171,.ref 4),(rh,173,.str nY 172),(sY,174,.none),(nX,193,.ref 21),(qt,198,.ref 23),(qR,214,.ref 24)]),(12,nF [.int 1 0,.int 0 0,.ref 20])]) 15 (mS 0 nX 187 1 1 15 [Jb] HG 164 (qT [.none,.none]::qT [.str (sN 0x3d) 196,.str (sN 0x7972616e6962) 197,.ref 22,.bool false]::dO P 5 [((sN 0x74726f6261),199,.int 0 200),((sN 0x6563616c706572),201,.int 0 202),((sN 0x65726f6e6769),203,.int 0 204),((sN 0x6b6361626c6c6f72),205,.int 1 206),(El,207,.int 2 208)]:: []))
def JK(P:Params):BT:=iN (iL (Eo P) [(3,dO P 13 [(a0,165,.str fx 194),(a2,166,.none),(a3,167,.none),(a4,168,.builtin EX),(a5,169,.none),(rJ,170,.ref 6),(sD,171,.ref 4),(rh,173,.str nY 172),(sY,174,.none),(nX,193,.ref 21),(qt,198,.ref 23),(qR,214,.ref 24),(jz,428,.ref 164)]),(12,nF [.int 1 0,.int 0 0,.ref 20,.int 7 0,.int 0 0,.ref 30])]) 25 (eT::fO wx [.builtin GD,.type vY]::dO P 23 [(j',222,.str fx 194),(uS,224,.str jz 223),(jV,226,.int 7 225),(f_,232,.ref 36),(Fy,239,.ref 43),(Hi,247,.ref 50),(FP,255,.ref 57),(El,264,.ref 64),(Ir,274,.ref 71),(F0,283,.ref 78),(Iu,292,.ref 85),(IC,304,.ref 92),(Fx,315,.ref 99),(GR,326,.ref 106),(Bh,332,.ref 111),(IP,343,.ref 118),(xp,353,.ref 126),(Fo,366,.ref 133),(HK,377,.ref 140),(Hr,385,.ref 147),(HL,392,.ref 154),(GF,410,.ref 161),(j_,421,.ref 162)]::eT::nF [.int 9 0,.int 4 0,.ref 35,.int 21 0,.int 4 0,.ref 42,.int 24 0,.int 4 0,.ref 49,.int 30 0,.int 4 0,.ref 56,.int 33 0,.int 4 0,.ref 63,.int 38 0,.int 4 0,.ref 70,.int 44 0,.int 4 0,.ref 77,.int 48 0,.int 4 0,.ref 84,.int 54 0,.int 4 0,.ref 91,.int 67 0,.int 4 0,.ref 98,.int 74 0,.int 4 0,.ref 105,.int 86 0,.int 4 0,.ref 110,.int 106 0,.int 4 0,.ref 117,.int 116 0,.int 4 0,.ref 125,.int 123 0,.int 4 0,.ref 132,.int 138 0,.int 4 0,.ref 139,.int 148 0,.int 4 0,.ref 146,.int 153 0,.int 4 0,.ref 153,.int 157 0,.int 4 0,.ref 160]::cB jz jz 217 7 28 220::⟨(.type D6),none,.plain,⟨[some (.ref 30),some (.ref 3),some (.ref 27),none,some (.str fx 194),none,some (.ref 0)]⟩⟩::eT::eF::gC 4 0 f_ Gr::cC f_ Gr 227 9 6 32 230::fC 4 0 f_ Gr fx 194 35::mC 4 1 Fy (sN 0x6e65706f2e726574697257776f52) 233 21 1 37 [dj] fx 194 (mC 4 2 Hi (sN 0x65736f6c632e726574697257776f52) 240 24 1 44 [dj,yN] fx 194 (mC 4 3 FP (sN 0x666f5f72657473696765722e726574697257776f52) 248 30 2 51 [dj,n9] fx 194 (mC 4 4 El (sN 0x6c6961662e726574697257776f52) 256 33 3 58 [dj,xL,DP] fx 194 (mC 4 5 Ir (sN 0x6573756665722e726574697257776f52) 265 38 4 65 [dj,tG,xL,DP] fx 194 (mC 4 6 F0 (sN 0x656d616e5f6e6d756c6f632e726574697257776f52) 275 44 2 72 [dj,n9,lI] fx 194 (mC 4 7 Iu (sN 0x6f746e695f746c75616665642e726574697257776f52) 284 48 3 79 [dj,n9,Bq] fx 194 (mC 4 8 IC (sN 0x736c6c756e5f6b636568632e726574697257776f52) 293 54 2 86 [dj,tG,n9,(sN 0x6e6d756c6f63),Bq,Gw] fx 194 (mC 4 9 Fx (sN 0x736d7265745f6b636568632e726574697257776f52) 305 67 2 93 [dj,tG,(sN 0x74736574),Jg,Gw] fx 194 (mC 4 10 GR (sN 0x6469776f725f6b636568632e726574697257776f52) 316 74 3 100 [dj,tG,H2,Gw,n9] fx 194 (eT::eF::gC 4 11 Bh FD::cC Bh FD 327 86 3 107 330::fC 4 11 Bh FD fx 194 110::mC 4 12 IP (sN 0x666f5f79656b2e726574697257776f52) 333 106 2 112 [dj,xd,Mc,C2,GZ] fx 194 (qT [.none,.bool false]::eT::eF::sT 347 [dj,tG,H2,(sN 0x6469776f725f77656e5f7369)]::eT::gC 4 13 xp IF::cA xp IF 344 116 4 120 351::fD 4 13 xp IF 119 fx 194 125::mC 4 14 Fo (sN 0x657265685f65766f6d65722e726574697257776f52) 354 123 1 127 [dj,xd,Mc,ud,C2,GZ,n9] fx 194 (mC 4 15 HK (sN 0x7475702e726574697257776f52) 367 138 2 134 [dj,(sN 0x7473616c5f7369),(sN 0x64726f636572),xd,C2] fx 194 (mC 4 16 Hr (sN 0x6469776f725f656b61742e726574697257776f52) 378 148 2 141 [dj,xu] fx 194 (mC 4 17 HL (sN 0x6469776f725f7065656b2e726574697257776f52) 386 153 1 148 [dj] fx 194 (mC 4 18 GF (sN 0x776f725f77656e2e726574697257776f52) 393 157 3 155 [dj,wK,Jv,tO,Ct,(sN 0x73656372756f73),xd,n9,Bq,Ji,KJ,(sN 0x7964616572)] fx 194 (sT 411 [(sN 0x65736162),JO,(sN 0x7463696c666e6f63),(sN 0x746e756f63),yN,Kv,(sN 0x73726f737275635f7865646e69),(sN 0x7379656b),tO,Ct]::dO P 4 [(j',222,.str fx 194),(jV,226,.int 7 225),(f_,232,.ref 36),(Fy,239,.ref 43),(Hi,247,.ref 50),(FP,255,.ref 57),(El,264,.ref 64),(Ir,274,.ref 71),(F0,283,.ref 78),(Iu,292,.ref 85),(IC,304,.ref 92),(Fx,315,.ref 99),(GR,326,.ref 106),(Bh,332,.ref 111),(IP,343,.ref 118),(xp,353,.ref 126),(Fo,366,.ref 133),(HK,377,.ref 140),(Hr,385,.ref 147),(HL,392,.ref 154),(GF,410,.ref 161),(j_,421,.ref 162),(n_,423,.ref 165),(lB,425,.ref 166),(a2,426,.none)]::⟨(.type vY),none,(.cls ⟨jz,[(.type yb)],[(.ref 164),(.type yb)],163,jz,true,[],[],false,none,false⟩),⟨[none,none,some (.str jz 215),some (.str jz 223),some (.builtin Kk),some (.bool true)]⟩⟩::fO AS [.str n_ 422,.ref 164,.builtin Ku,.builtin Lp]::fO AS [.str lB 424,.ref 164,.builtin x9,.none]::fO uo [.ref 164,.ref 164,.ref 164]::fO wx [.builtin tW,.ref 164]:: [])))))))))))))))))
def Fl(P:Params):BT:=iN (iL (JK P) [(2,⟨.none,none,(.dict ⟨[de P (sN 0x302e6e6f697470656378452e5f5f73657373616c636275735f5f2e65707974) 456 (.int (185) 0),de P (sN 0x6e2e6e6f697470656378452e5f5f73657373616c636275735f5f2e65707974) 457 (.int (1) 0)]⟩ 2),⟨[]⟩⟩),(3,dO P 15 [(a0,165,.str jl 476),(a2,166,.none),(a3,167,.none),(a4,168,.builtin EX),(a5,169,.none),(rJ,170,.ref 6),(sD,171,.ref 4),(rh,173,.str nY 172),(sY,174,.none),(nX,193,.ref 21),(qt,198,.ref 23),(qR,214,.ref 24),(jz,428,.ref 164),(jU,459,.ref 185),(jQ,475,.ref 198)]),(12,nF [.int 1 0,.int 0 0,.ref 20,.int 7 0,.int 0 0,.ref 30,.int 188 0,.int 0 0,.ref 174,.int 192 0,.int 0 0,.ref 194])]) 169 (qT [.type C']::fO wx [.builtin GD,.type vY]::dO P 5 [(j',438,.str ua 429),(uS,440,.str jU 439),(jV,442,.int 188 441),(f_,450,.ref 182),(j_,452,.ref 183)]::eT::nF [.int 190 0,.int 4 0,.ref 181]::cB jU jU 433 188 172 436::⟨(.type D6),none,.plain,⟨[some (.ref 174),some (.ref 3),some (.ref 171),none,some (.str ua 429),none,some (.ref 0)]⟩⟩::mC 6 0 f_ (sN 0x5f5f74696e695f5f2e726f7272456573616265676150) 443 190 2 176 [dj,DP] ua 429 (sT 451 [DP]::dO P 3 [(j',438,.str ua 429),(jV,442,.int 188 441),(f_,450,.ref 182),(j_,452,.ref 183),(lB,454,.ref 186),(a2,455,.none)]::⟨(.type vY),none,(.cls ⟨jU,[(.type C')],[(.ref 185),(.type C'),(.type Kw),(.type yb)],184,jU,true,[],[(.ref 198)],false,none,false⟩),⟨[some (.ref 169),none,some (.str jU 431),some (.str jU 439),some (.builtin Jd),some (.bool true)]⟩⟩::fO AS [.str lB 453,.ref 185,.builtin x9,.none]::fO uo [.ref 185,.ref 185,.ref 185]::fO wx [.builtin tW,.ref 185]::qT [.ref 185]::fO wx [.builtin GD,.type vY]::dO P 4 [(j',467,.str ua 429),(uS,469,.str jQ 468),(jV,471,.int 192 470),(j_,472,.ref 196)]::eT::eF::cB jQ jQ 462 192 192 465::⟨(.type D6),none,.plain,⟨[some (.ref 194),some (.ref 3),some (.ref 191),none,some (.str ua 429),none,some (.ref 0)]⟩⟩::eT::dO P 2 [(j',467,.str ua 429),(jV,471,.int 192 470),(j_,472,.ref 196),(a2,473,.none)]::⟨(.type vY),none,(.cls ⟨jQ,[(.ref 185)],[(.ref 198),(.ref 185),(.type C'),(.type Kw),(.type yb)],197,jQ,true,[],[],false,none,false⟩),⟨[some (.ref 189),none,some (.str jQ 460),some (.str jQ 468),some (.builtin Jd),some (.bool true)]⟩⟩::fO uo [.ref 198,.ref 198,.ref 198]::fO wx [.builtin tW,.ref 198]:: []))
def E4(P:Params):BT:=iN (iL (Fl P) [(3,dO P 16 [(a0,165,.str jl 476),(a2,166,.none),(a3,167,.none),(a4,168,.builtin EX),(a5,169,.none),(rJ,170,.ref 6),(sD,171,.ref 4),(rh,173,.str nY 172),(sY,174,.none),(nX,193,.ref 21),(qt,198,.ref 23),(qR,214,.ref 24),(jz,428,.ref 164),(jU,459,.ref 185),(jQ,475,.ref 198),(wR,568,.ref 201)])]) 201 (dO P 30 [((sN 0x6f746f47),478,.int 1 479),((sN 0x6275736f47),481,.int 1 482),((sN 0x65636e4f),484,.int 1 485),((sN 0x6649),487,.int 1 488),((sN 0x746f4e6649),490,.int 1 491),((sN 0x6c6c754e7349),493,.int 1 494),((sN 0x6c6c754e746f4e),496,.int 1 497),((sN 0x736f506649),499,.int 1 500),((sN 0x746e4965427473754d),502,.int 1 503),((sN 0x706d754a657261706d6f43),505,.int 1 506),((sN 0x646e69776552),508,.int 1 509),((sN 0x7473614c),511,.int 1 512),((sN 0x7478654e),514,.int 1 515),((sN 0x76657250),517,.int 1 518),((sN 0x6469776f526b656553),520,.int 1 521),((sN 0x45476b656553),523,.int 1 524),((sN 0x54476b656553),526,.int 1 527),(Mm,529,.int 1 530),(K5,531,.int 1 532),(Kq,533,.int 1 534),(Ll,535,.int 1 536),(J0,537,.int 1 538),(Jr,539,.int 1 540),(K4,541,.int 1 542),(JX,543,.int 1 544),(LX,545,.int 1 546),(J5,547,.int 1 548),(LR,549,.int 1 550),(Jt,551,.int 1 552),(Kb,553,.int 1 554)]::dO P 13 [(Mm,529,.int 1 530),(K5,531,.int 1 532),(Kq,533,.int 1 534),(Ll,535,.int 1 536),(J0,537,.int 1 538),(Jr,539,.int 1 540),(K4,541,.int 1 542),(JX,543,.int 1 544),(LX,545,.int 1 546),(J5,547,.int 1 548),(LR,549,.int 1 550),(Jt,551,.int 1 552),(Kb,553,.int 1 554)]:: [])
def La(P:Params):BT:=iN (iL (E4 P) [(3,dO P 19 [(a0,165,.str HX 695),(a2,166,.none),(a3,167,.none),(a4,168,.builtin EX),(a5,169,.none),(rJ,170,.ref 6),(sD,171,.ref 4),(rh,173,.str nY 172),(sY,174,.none),(nX,193,.ref 21),(qt,198,.ref 23),(qR,214,.ref 24),(jz,428,.ref 164),(jU,459,.ref 185),(jQ,475,.ref 198),(wR,568,.ref 201),(lH,694,.ref 292),(yf,698,.str DC 697),(xZ,707,.ref 303)]),(12,nF [.int 1 0,.int 0 0,.ref 20,.int 7 0,.int 0 0,.ref 30,.int 188 0,.int 0 0,.ref 174,.int 192 0,.int 0 0,.ref 194,.int 196 0,.int 0 0,.ref 208,.int 265 0,.int 0 0,.ref 302])]) 203 (eT::fO wx [.builtin GD,.type vY]::dO P 15 [(j',576,.str jl 476),(uS,578,.str lH 577),(jV,580,.int 196 579),(f_,587,.ref 216),(yg,602,.ref 224),(IU,609,.ref 231),(xm,617,.ref 238),(n9,625,.ref 245),(Ar,635,.ref 253),(yN,643,.ref 260),(GX,650,.ref 267),(B1,659,.ref 274),(BM,669,.ref 282),(G4,678,.ref 289),(j_,687,.ref 290)]::eT::nF [.int 198 0,.int 4 0,.ref 215,.int 208 0,.int 4 0,.ref 223,.int 212 0,.int 4 0,.ref 230,.int 215 0,.int 4 0,.ref 237,.int 220 0,.int 4 0,.ref 244,.int 227 0,.int 4 0,.ref 252,.int 232 0,.int 4 0,.ref 259,.int 237 0,.int 4 0,.ref 266,.int 240 0,.int 4 0,.ref 273,.int 245 0,.int 4 0,.ref 281,.int 250 0,.int 4 0,.ref 288]::cB lH lH 571 196 206 574::⟨(.type D6),none,.plain,⟨[some (.ref 208),some (.ref 3),some (.ref 205),none,some (.str jl 476),none,some (.ref 0)]⟩⟩::mC 10 0 f_ (sN 0x5f5f74696e695f5f2e6d6172676f7250) 581 198 1 210 [dj] jl 476 (qT [.int 0 588,.int 0 589,.int 0 590,.none]::eT::eF::sT 594 [dj,lI,IJ,Gp,FU,H8]::eT::gC 10 1 yg FT::cA yg FT 591 208 6 218 600::fD 10 1 yg FT 217 jl 476 223::mC 10 2 IU (sN 0x657265682e6d6172676f7250) 603 212 1 225 [dj] jl 476 (mC 10 3 xm (sN 0x6c6562616c2e6d6172676f7250) 610 215 1 232 [dj,xm] jl 476 (mC 10 4 n9 (sN 0x6563616c702e6d6172676f7250) 618 220 2 239 [dj,xm] jl 476 (qT [.int 1 626]::eT::eF::sT 630 [dj,ud,C2]::eT::gC 10 5 Ar G0::cA Ar G0 627 227 2 247 633::fD 10 5 Ar G0 246 jl 476 252::mC 10 6 yN (sN 0x726f737275632e6d6172676f7250) 636 232 1 254 [dj,(sN 0x7265626d756e)] jl 476 (mC 10 7 GX (sN 0x746f6c732e6d6172676f7250) 644 237 1 261 [dj] jl 476 (mC 10 8 B1 (sN 0x65756c61762e6d6172676f7250) 651 240 2 268 [dj,B1,Bq] jl 476 (qT [.int 1 660]::eT::eF::sT 664 [dj,ud,Bq]::eT::gC 10 9 BM Ie::cA BM Ie 661 245 2 276 667::fD 10 9 BM Ie 275 jl 476 281::mC 10 10 G4 (sN 0x6873696e69662e6d6172676f7250) 670 250 1 283 [dj,xm,yK] jl 476 (sT 679 [Ab,(sN 0x73726f73727563),(sN 0x736c6562616c),(sN 0x6c6562616c5f7478656e),Mb,(sN 0x737265747369676572),(sN 0x73746f6c73),Lw]::dO P 4 [(j',576,.str jl 476),(jV,580,.int 196 579),(f_,587,.ref 216),(yg,602,.ref 224),(IU,609,.ref 231),(xm,617,.ref 238),(n9,625,.ref 245),(Ar,635,.ref 253),(yN,643,.ref 260),(GX,650,.ref 267),(B1,659,.ref 274),(BM,669,.ref 282),(G4,678,.ref 289),(j_,687,.ref 290),(n_,689,.ref 293),(lB,691,.ref 294),(a2,692,.none)]::⟨(.type vY),none,(.cls ⟨lH,[(.type yb)],[(.ref 292),(.type yb)],291,lH,true,[],[],false,none,false⟩),⟨[none,none,some (.str lH 569),some (.str lH 577),some (.builtin Kk),some (.bool true)]⟩⟩::fO AS [.str n_ 688,.ref 292,.builtin Ku,.builtin Lp]::fO AS [.str lB 690,.ref 292,.builtin x9,.none]::fO uo [.ref 292,.ref 292,.ref 292]::fO wx [.builtin tW,.ref 292]::mS 13 xZ 699 265 1 297 [Jg,(sN 0x736e676973),(sN 0x6e676973)] HX 695 ([]))))))))))
def Jc(P:Params):BT:=iN (iL (La P) [(3,dO P 22 [(a0,165,.str h_ 717),(a2,166,.none),(a3,167,.none),(a4,168,.builtin EX),(a5,169,.none),(rJ,170,.ref 6),(sD,171,.ref 4),(rh,173,.str nY 172),(sY,174,.none),(nX,193,.ref 21),(qt,198,.ref 23),(qR,214,.ref 24),(jz,428,.ref 164),(jU,459,.ref 185),(jQ,475,.ref 198),(wR,568,.ref 201),(lH,694,.ref 292),(yf,698,.str DC 697),(xZ,707,.ref 303),(AZ,716,.ref 310),(m6,753,.ref 328),(mV,807,.ref 361)]),(12,nF [.int 1 0,.int 0 0,.ref 20,.int 7 0,.int 0 0,.ref 30,.int 188 0,.int 0 0,.ref 174,.int 192 0,.int 0 0,.ref 194,.int 196 0,.int 0 0,.ref 208,.int 265 0,.int 0 0,.ref 302,.int 273 0,.int 0 0,.ref 309,.int 286 0,.int 0 0,.ref 316,.int 295 0,.int 0 0,.ref 338])]) 304 (mS 14 AZ 708 273 1 304 [Iv,lI,(sN 0x74726170)] HX 695 (eT::fO wx [.builtin GD,.type vY]::dO P 5 [(j',726,.str h_ 717),(uS,728,.str m6 727),(jV,730,.int 286 729),(f_,739,.ref 325),(j_,746,.ref 326)]::eT::nF [.int 288 0,.int 4 0,.ref 324]::cB m6 m6 721 286 314 724::⟨(.type D6),none,.plain,⟨[some (.ref 316),some (.ref 3),some (.ref 313),none,some (.str h_ 717),none,some (.ref 0)]⟩⟩::qT [.none]::eT::eF::sT 734 [dj,lI,Iv]::eT::gC 16 0 f_ GW::cA f_ GW 731 288 3 319 737::fD 16 0 f_ GW 318 h_ 717 324::sT 740 [(sN 0x7974696e69666661),(sN 0x6e6f6974616c6c6f63),Mq,lI,(sN 0x6c6c756e5f746f6e),Iv]::dO P 4 [(j',726,.str h_ 717),(jV,730,.int 286 729),(f_,739,.ref 325),(j_,746,.ref 326),(n_,748,.ref 329),(lB,750,.ref 330),(a2,751,.none)]::⟨(.type vY),none,(.cls ⟨m6,[(.type yb)],[(.ref 328),(.type yb)],327,m6,true,[],[],false,none,false⟩),⟨[none,none,some (.str m6 719),some (.str m6 727),some (.builtin Kk),some (.bool true)]⟩⟩::fO AS [.str n_ 747,.ref 328,.builtin Ku,.builtin Lp]::fO AS [.str lB 749,.ref 328,.builtin x9,.none]::fO uo [.ref 328,.ref 328,.ref 328]::fO wx [.builtin tW,.ref 328]::eT::fO wx [.builtin GD,.type vY]::dO P 7 [(j',761,.str h_ 717),(uS,763,.str mV 762),(jV,765,.int 295 764),(f_,779,.ref 346),(GO,786,.ref 353),(wK,792,.ref 358),(j_,800,.ref 359)]::eT::nF [.int 297 0,.int 4 0,.ref 345,.int 306 0,.int 4 0,.ref 352,.int 309 0,.int 4 0,.ref 357]::cB mV mV 756 295 336 759::⟨(.type D6),none,.plain,⟨[some (.ref 338),some (.ref 3),some (.ref 335),none,some (.str h_ 717),none,some (.ref 0)]⟩⟩::mC 17 0 f_ (sN 0x5f5f74696e695f5f2e7865646e49) 766 297 8 340 [dj,lI,Ct,Di,Ab,L6,KS,CV] h_ 717 (mC 17 1 GO (sN 0x6f666e692e7865646e49) 780 306 1 347 [dj] h_ 717 (eT::eF::gC 17 2 wK Ii::cC wK Ii 787 309 1 354 790::fC 17 2 wK Ii h_ 717 357::sT 793 [Ab,lI,KS,Di,CV,Ct,L6]::dO P 4 [(j',761,.str h_ 717),(jV,765,.int 295 764),(f_,779,.ref 346),(GO,786,.ref 353),(wK,792,.ref 358),(j_,800,.ref 359),(n_,802,.ref 362),(lB,804,.ref 363),(a2,805,.none)]::⟨(.type vY),none,(.cls ⟨mV,[(.type yb)],[(.ref 361),(.type yb)],360,mV,true,[],[],false,none,false⟩),⟨[none,none,some (.str mV 754),some (.str mV 762),some (.builtin Kk),some (.bool true)]⟩⟩::fO AS [.str n_ 801,.ref 361,.builtin Ku,.builtin Lp]::fO AS [.str lB 803,.ref 361,.builtin x9,.none]::fO uo [.ref 361,.ref 361,.ref 361]::fO wx [.builtin tW,.ref 361]:: []))))
def Jj(P:Params):BT:=iN (iL (Jc P) [(3,dO P 31 [(a0,165,.str e_ 868),(a2,166,.none),(a3,167,.none),(a4,168,.builtin EX),(a5,169,.none),(rJ,170,.ref 6),(sD,171,.ref 4),(rh,173,.str nY 172),(sY,174,.none),(nX,193,.ref 21),(qt,198,.ref 23),(qR,214,.ref 24),(jz,428,.ref 164),(jU,459,.ref 185),(jQ,475,.ref 198),(wR,568,.ref 201),(lH,694,.ref 292),(yf,698,.str DC 697),(xZ,707,.ref 303),(AZ,716,.ref 310),(m6,753,.ref 328),(mV,807,.ref 361),(nT,867,.ref 401),(Dr,880,.ref 412),(CN,889,.ref 419),(C_,897,.ref 426),(tE,903,.ref 431),(Du,912,.ref 438),(CF,927,.ref 445),(B9,946,.ref 452),(Ei,961,.ref 459)]),(12,nF [.int 1 0,.int 0 0,.ref 20,.int 7 0,.int 0 0,.ref 30,.int 188 0,.int 0 0,.ref 174,.int 192 0,.int 0 0,.ref 194,.int 196 0,.int 0 0,.ref 208,.int 265 0,.int 0 0,.ref 302,.int 273 0,.int 0 0,.ref 309,.int 286 0,.int 0 0,.ref 316,.int 295 0,.int 0 0,.ref 338,.int 311 0,.int 0 0,.ref 371,.int 332 0,.int 0 0,.ref 411,.int 339 0,.int 0 0,.ref 418,.int 346 0,.int 0 0,.ref 425,.int 348 0,.int 0 0,.ref 430,.int 353 0,.int 0 0,.ref 437,.int 363 0,.int 0 0,.ref 444,.int 380 0,.int 0 0,.ref 451,.int 390 0,.int 0 0,.ref 458])]) 366 (eT::fO wx [.builtin GD,.type vY]::dO P 8 [(j',815,.str h_ 717),(uS,817,.str nT 816),(jV,819,.int 311 818),(f_,830,.ref 379),(Gq,838,.ref 386),(zM,844,.ref 391),(G1,851,.ref 398),(j_,860,.ref 399)]::eT::nF [.int 313 0,.int 4 0,.ref 378,.int 323 0,.int 4 0,.ref 385,.int 326 0,.int 4 0,.ref 390,.int 329 0,.int 4 0,.ref 397]::cB nT nT 810 311 369 813::⟨(.type D6),none,.plain,⟨[some (.ref 371),some (.ref 3),some (.ref 368),none,some (.str h_ 717),none,some (.ref 0)]⟩⟩::mC 18 0 f_ (sN 0x5f5f74696e695f5f2e656c626154) 820 313 5 373 [dj,lI,Di,Ab,CV] h_ 717 (mC 18 1 Gq (sN 0x666f5f6563616c702e656c626154) 831 323 2 380 [dj,lI] h_ 717 (eT::eF::gC 18 2 zM Gi::cC zM Gi 839 326 1 387 842::fC 18 2 zM Gi h_ 717 390::mC 18 3 G1 (sN 0x73656d616e5f6e6d756c6f632e656c626154) 845 329 1 392 [dj] h_ 717 (sT 852 [JO,Ab,(sN 0x73657865646e69),lI,(sN 0x7972616d697270),Di,(sN 0x6563616c705f6469776f72),CV]::dO P 4 [(j',815,.str h_ 717),(jV,819,.int 311 818),(f_,830,.ref 379),(Gq,838,.ref 386),(zM,844,.ref 391),(G1,851,.ref 398),(j_,860,.ref 399),(n_,862,.ref 402),(lB,864,.ref 403),(a2,865,.none)]::⟨(.type vY),none,(.cls ⟨nT,[(.type yb)],[(.ref 401),(.type yb)],400,nT,true,[],[],false,none,false⟩),⟨[none,none,some (.str nT 808),some (.str nT 816),some (.builtin Kk),some (.bool true)]⟩⟩::fO AS [.str n_ 861,.ref 401,.builtin Ku,.builtin Lp]::fO AS [.str lB 863,.ref 401,.builtin x9,.none]::fO uo [.ref 401,.ref 401,.ref 401]::fO wx [.builtin tW,.ref 401]::mS 20 Dr 870 332 2 406 [Ls,Jb,(sN 0x6c6c6563),(sN 0x676962),(sN 0x646578696d)] e_ 868 (mS 21 CN 881 339 2 413 [xu,(sN 0x706f74),BL] e_ 868 (mS 22 C_ 890 346 2 420 [xu,(sN 0x73676e696874)] e_ 868 (eT::eF::gS 23 tE::cC tE tE 898 348 4 427 901::fS 23 tE e_ 868 430::mS 24 Du 904 353 3 432 [nJ,zt,pC] e_ 868 (mS 25 CF 913 363 6 439 [nJ,A7,F8,Hg,zt,pC,xL,(sN 0x74656d),(sN 0x726568746f)] e_ 868 (mS 26 B9 928 380 4 446 [nJ,A7,BL,pC,ud,GK,IA,FS,FX,KJ,Hg,Mn,xL] e_ 868 (mS 27 Ei 947 390 4 453 [nJ,A7,FV,pC,ud,F8,zt,Mn,xL] e_ 868 ([])))))))))))
def pU(P:Params):BT:=iN (iL (Jj P) [(3,dO P 46 [(a0,165,.str e_ 868),(a2,166,.none),(a3,167,.none),(a4,168,.builtin EX),(a5,169,.none),(rJ,170,.ref 6),(sD,171,.ref 4),(rh,173,.str nY 172),(sY,174,.none),(nX,193,.ref 21),(qt,198,.ref 23),(qR,214,.ref 24),(jz,428,.ref 164),(jU,459,.ref 185),(jQ,475,.ref 198),(wR,568,.ref 201),(lH,694,.ref 292),(yf,698,.str DC 697),(xZ,707,.ref 303),(AZ,716,.ref 310),(m6,753,.ref 328),(mV,807,.ref 361),(nT,867,.ref 401),(Dr,880,.ref 412),(CN,889,.ref 419),(C_,897,.ref 426),(tE,903,.ref 431),(Du,912,.ref 438),(CF,927,.ref 445),(B9,946,.ref 452),(Ei,961,.ref 459),(wZ,967,.ref 464),(xK,983,.ref 471),(Fu,999,.ref 478),(II,1015,.ref 485),(xg,1021,.ref 490),(F7,1031,.ref 497),(xV,1037,.ref 502),(GS,1051,.ref 509),(Ij,1065,.ref 516),(Fz,1078,.ref 523),(xN,1084,.ref 528),(xr,1090,.ref 533),(FO,1104,.ref 540),(Iz,1120,.ref 547),(Hm,1138,.ref 554)]),(12,nF [.int 1 0,.int 0 0,.ref 20,.int 7 0,.int 0 0,.ref 30,.int 188 0,.int 0 0,.ref 174,.int 192 0,.int 0 0,.ref 194,.int 196 0,.int 0 0,.ref 208,.int 265 0,.int 0 0,.ref 302,.int 273 0,.int 0 0,.ref 309,.int 286 0,.int 0 0,.ref 316,.int 295 0,.int 0 0,.ref 338,.int 311 0,.int 0 0,.ref 371,.int 332 0,.int 0 0,.ref 411,.int 339 0,.int 0 0,.ref 418,.int 346 0,.int 0 0,.ref 425,.int 348 0,.int 0 0,.ref 430,.int 353 0,.int 0 0,.ref 437,.int 363 0,.int 0 0,.ref 444,.int 380 0,.int 0 0,.ref 451,.int 390 0,.int 0 0,.ref 458,.int 399 0,.int 0 0,.ref 463,.int 409 0,.int 0 0,.ref 470,.int 416 0,.int 0 0,.ref 477,.int 429 0,.int 0 0,.ref 484,.int 449 0,.int 0 0,.ref 489,.int 451 0,.int 0 0,.ref 496,.int 455 0,.int 0 0,.ref 501,.int 477 0,.int 0 0,.ref 508,.int 498 0,.int 0 0,.ref 515,.int 514 0,.int 0 0,.ref 522,.int 533 0,.int 0 0,.ref 527,.int 536 0,.int 0 0,.ref 532,.int 552 0,.int 0 0,.ref 539,.int 559 0,.int 0 0,.ref 546,.int 575 0,.int 0 0,.ref 553])]) 460 (eT::eF::gS 28 wZ::cC wZ wZ 962 399 1 460 965::fS 28 wZ e_ 868 463::eT::eF::sT 971 [nJ,tO,pC,xp,Mq,Kv]::sT 977 [nJ,tO,Ji,(sN 0x6f72657a)]::gS 29 xK::cA xK xK 968 409 3 465 981::fS 29 xK e_ 868 470::mS 30 Fu 984 416 3 472 [nJ,BL,pC,tO,G8,zt,Jv,tG,xd,(sN 0x77656e5f7369)] e_ 868 (mS 31 II 1000 429 3 479 [nJ,FV,pC,tO,G8,F8,zt,H2,tG,xd] e_ 868 (eT::eF::gS 32 xg::cC xg xg 1016 449 3 486 1019::fS 32 xg e_ 868 489::mS 33 F7 1022 451 4 491 [yK,(sN 0x7466656c),(sN 0x7468676972),(sN 0x736c6c756e)] e_ 868 (eT::eF::gS 34 xV::cC xV xV 1032 455 2 498 1035::fS 34 xV e_ 868 501::mS 35 GS 1038 477 2 503 [HU,yK,lI,IJ,Gp,FU,H8,(sN 0x73676572)] e_ 868 (mS 36 Ij 1052 498 2 510 [HU,yK,lI,IJ,Gp,FU,H8,(sN 0x656e6f67)] e_ 868 (mS 37 Fz 1066 514 2 517 [HU,Mb,(sN 0x73706d756a),Lw,GZ,L8,yK] e_ 868 (eT::eF::gS 38 xN::cC xN xN 1079 533 3 524 1082::fS 38 xN e_ 868 527::eT::eF::gS 39 xr::cC xr xr 1085 536 6 529 1088::fS 39 xr e_ 868 532::mS 40 FO 1091 552 2 534 [xu,ud,BL,L8,GK,IA,FS,FX] e_ 868 (mS 41 Iz 1105 559 3 541 [xu,nJ,A7,pC,(sN 0x646e756f66),Hg,GK,IA,FS,FX] e_ 868 (mS 42 Hm 1121 575 1 548 [Ls,xu,nJ,A7,pC,(sN 0x726574616c),BL,ud,xL,G8,tO,FV] e_ 868 ([]))))))))))
def OY(P:Params):Heap:=⟨⟨[PySem.W.boot_o_0 P,PySem.W.boot_o_1 P,PySem.W.boot_o_2 P,PySem.W.boot_o_3 P,PySem.W.boot_o_4 P,PySem.W.boot_o_5 P,PySem.W.boot_o_6 P,PySem.W.boot_o_7 P,PySem.W.boot_o_8 P,PySem.W.boot_o_9 P,PySem.W.boot_o_10 P,eT,eF,cB DX DX 182 1 11 185,⟨(.type D6),none,.plain,⟨[some (.ref 13),some (.ref 3),some (.ref 3),none,some (.str HG 164),none,some (.ref 0)]⟩⟩]⟩,FW⟩
def FA(P:Params):Heap:=⟨⟨(@Nat.rec (fun _=>Nat->List Obj) (fun _=> []) (fun _ ih i=>((pU P).get i).getD eT::ih (Nat.succ i)) 555 0)⟩,FW⟩
noncomputable def zY:Env:={scope:=pN.main.scope,locals:=mainNs,globals:=mainNs,cells:= [],code:=.ref 13,frame:=some 14}
noncomputable def cT:Code:=.body (behindTheImports pN) zY
noncomputable def sh(t:BT)(n k:Nat)(os:OsState):SharedT:=⟨t,n,FW,#[],{},k,os⟩
noncomputable def t8(lo hi:Nat)(pos:Pos):Thread:=piecesOf (((behindTheImports pN).drop lo).take (hi - lo)) zY cT pos [topFrame ⟨0,0,0,0⟩]
noncomputable abbrev gc:Option Value:=some (.ref 6)
noncomputable abbrev p0:Pos:=⟨0,0,0,0⟩
noncomputable def ex(t:BT)(n k:Nat)(pos:Pos)(os:OsState):Option (Flow×SharedT×Code×Pos):=some (.next,sh t n k os,cT,pos)
theorem BO(w:World):(fun os=>segRunT treeTable pN (w.withFollow "special-get-raises" false) 11 gc 1 138 (sh (He (w.withFollow "special-get-raises" false).params) 15 187 os) (t8 0 4 p0))=fun os=>ex (Eo (w.withFollow "special-get-raises" false).params) 25 215 ⟨6,0,6,5⟩ os:=by rw [PySem.W.Fast.te10110043849684766642,PySem.W.Fast.te14364793385576792824];kernel_rfl
theorem Do(w:World):(fun os=>segRunT treeTable pN (w.withFollow "special-get-raises" true) 11 gc 1 138 (sh (He (w.withFollow "special-get-raises" true).params) 15 187 os) (t8 0 4 p0))=fun os=>ex (Eo (w.withFollow "special-get-raises" true).params) 25 215 ⟨6,0,6,5⟩ os:=by rw [PySem.W.Fast.te10110043849684766642,PySem.W.Fast.te14364793385576792824];kernel_rfl
theorem Pp(w:World):(fun os=>segRunT treeTable pN w 11 gc 1 138 (sh (He w.params) 15 187 os) (t8 0 4 p0))=fun os=>ex (Eo w.params) 25 215 ⟨6,0,6,5⟩ os:=byRow2 "special-get-raises" (P:=fun w=>(fun os=>segRunT treeTable pN w 11 gc 1 138 (sh (He w.params) 15 187 os) (t8 0 4 p0))=fun os=>ex (Eo w.params) 25 215 ⟨6,0,6,5⟩ os) BO Do w
theorem PI(w:World):(fun os=>segRunT treeTable pN w 11 gc 1 837 (sh (Eo w.params) 25 215 os) (t8 4 5 ⟨6,0,6,5⟩))=fun os=>ex (JK w.params) 169 429 ⟨7,0,186,27⟩ os:=by rw [PySem.W.Fast.te10110043849684766642,PySem.W.Fast.te14364793385576792824];kernel_rfl
theorem PY(w:World):(fun os=>segRunT treeTable pN w 11 gc 1 460 (sh (JK w.params) 169 429 os) (t8 5 9 ⟨7,0,186,27⟩))=fun os=>ex (Fl w.params) 201 478 ⟨194,0,194,8⟩ os:=by rw [PySem.W.Fast.te10110043849684766642,PySem.W.Fast.te14364793385576792824];kernel_rfl
theorem yQ(w:World):(fun os=>segRunT treeTable pN (w.withFollow "special-get-raises" false) 11 gc 1 546 (sh (Fl (w.withFollow "special-get-raises" false).params) 201 478 os) (t8 9 10 ⟨194,0,194,8⟩))=fun os=>ex (E4 (w.withFollow "special-get-raises" false).params) 203 569 ⟨195,0,195,5⟩ os:=by rw [PySem.W.Fast.te10110043849684766642,PySem.W.Fast.te14364793385576792824];kernel_rfl
theorem DE(w:World):(fun os=>segRunT treeTable pN (w.withFollow "special-get-raises" true) 11 gc 1 546 (sh (Fl (w.withFollow "special-get-raises" true).params) 201 478 os) (t8 9 10 ⟨194,0,194,8⟩))=fun os=>ex (E4 (w.withFollow "special-get-raises" true).params) 203 569 ⟨195,0,195,5⟩ os:=by rw [PySem.W.Fast.te10110043849684766642,PySem.W.Fast.te14364793385576792824];kernel_rfl
theorem Qx(w:World):(fun os=>segRunT treeTable pN w 11 gc 1 546 (sh (Fl w.params) 201 478 os) (t8 9 10 ⟨194,0,194,8⟩))=fun os=>ex (E4 w.params) 203 569 ⟨195,0,195,5⟩ os:=byRow2 "special-get-raises" (P:=fun w=>(fun os=>segRunT treeTable pN w 11 gc 1 546 (sh (Fl w.params) 201 478 os) (t8 9 10 ⟨194,0,194,8⟩))=fun os=>ex (E4 w.params) 203 569 ⟨195,0,195,5⟩ os) yQ DE w
theorem PZ(w:World):(fun os=>segRunT treeTable pN w 11 gc 1 612 (sh (E4 w.params) 203 569 os) (t8 10 14 ⟨195,0,195,5⟩))=fun os=>ex (La w.params) 304 708 ⟨265,0,272,25⟩ os:=by rw [PySem.W.Fast.te10110043849684766642,PySem.W.Fast.te14364793385576792824];kernel_rfl
theorem PK(w:World):(fun os=>segRunT treeTable pN w 11 gc 1 563 (sh (La w.params) 304 708 os) (t8 14 18 ⟨265,0,272,25⟩))=fun os=>ex (Jc w.params) 366 808 ⟨295,0,310,71⟩ os:=by rw [PySem.W.Fast.te10110043849684766642,PySem.W.Fast.te14364793385576792824];kernel_rfl
theorem PN(w:World):(fun os=>segRunT treeTable pN w 11 gc 1 599 (sh (Jc w.params) 366 808 os) (t8 18 28 ⟨295,0,310,71⟩))=fun os=>ex (Jj w.params) 460 962 ⟨390,0,398,23⟩ os:=by rw [PySem.W.Fast.te10110043849684766642,PySem.W.Fast.te14364793385576792824];kernel_rfl
theorem Qw(w:World):(fun os=>segRunT treeTable pN w 11 gc 1 498 (sh (Jj w.params) 460 962 os) (t8 28 43 ⟨390,0,398,23⟩))=fun os=>ex (pU w.params) 555 1139 ⟨575,0,591,76⟩ os:=by rw [PySem.W.Fast.te10110043849684766642,PySem.W.Fast.te14364793385576792824];kernel_rfl
theorem Kp(w:World):(fun os=>topGo treeTable pN w 11 gc 12 ⟨boot_heap w.params,#[],boot_drawn,boot_toks,os⟩ (topStub pN))=fun os=>some (⟨OY w.params,#[],{},187,os⟩,⟨denote treeTable cT,cT,p0,[topFrame p0]⟩):=by rw [PySem.W.Fast.te15667345088766844465,PySem.W.Fast.te14364793385576792824,PySem.W.Fast.te11892475500146522536];kernel_rfl
theorem Dd(w:World):(fun os=>segRun treeTable pN w 11 gc 1 1 ⟨OY w.params,#[],{},187,os⟩ (blockOf (behindTheImports pN) zY cT p0 [topFrame p0]))=fun os=>some (.next,(sh (He w.params) 15 187 os).abs,cT,p0):=by rw [PySem.W.Fast.te14374325043358763698,PySem.W.Fast.te14364793385576792824];kernel_rfl
theorem Mk(w:World):(fun os=>topRun treeTable pN w 11 gc 2 (sh (pU w.params) 555 1139 os).abs ⟨doneF .next,cT,⟨575,0,591,76⟩,[topFrame p0]⟩)=fun os=>some ⟨FA w.params,#[],{},1139,os⟩:=by rw [PySem.W.Fast.te14082659384304107361,PySem.W.Fast.te14364793385576792824];kernel_rfl
theorem NM{B:List Stmt}(lo hi:Nat)(h:lo<=hi):(B.drop lo).take (hi - lo)++B.drop hi=B.drop lo:=by rw [show B.drop hi=(B.drop lo).drop (hi - lo) by rw [List.drop_drop];congr 1;exact QF (ai 0x61c01400401c6005040003 rfl (jw _ _)) (ai 0x71460000421c6140040003 rfl (jI (ai 0x6140040185040002 rfl h)))];exact List.take_append_drop ..
theorem gp{w:World}{N n:Nat}{lo hi:Nat}{S S':OsState->SharedT}{pos pos':Pos}{r:Shared}(os:OsState)(hl:lo<=hi)
  (h:(fun os=>segRunT treeTable pN w 11 gc 1 n (S os) (t8 lo hi pos))=fun os=>some (.next,S' os,cT,pos'))
  (k:topRun treeTable pN w 11 gc N (S' os).abs (restOf ((behindTheImports pN).drop hi) zY cT pos' [topFrame p0])=some r):
  topRun treeTable pN w 11 gc (n+N) (S os).abs (restOf ((behindTheImports pN).drop lo) zY cT pos [topFrame p0])=some r:=by
 rw [<-NM lo hi hl];exact piece_app (segRun_of (congrFun h os)) k
theorem zH:(behindTheImports pN).drop 43= []:=by kernel_rfl
theorem HQ(w:World)(os:OsState):topRun treeTable pN w 11 gc (12+(1+(138+(837+(460+(546+(612+(563+(599+(498+2)))))))))) ⟨boot_heap w.params,#[],boot_drawn,boot_toks,os⟩ (topStub pN)=some ⟨FA w.params,#[],{},1139,os⟩:=by refine go_top (congrFun (Kp w) os) (piece_block (congrFun (Dd w) os) ?_);refine gp (lo:=0) (hi:=4) (S:=sh (He w.params) 15 187) (S':=sh (Eo w.params) 25 215) (pos:=p0) (pos':=⟨6,0,6,5⟩) os (by decide) (Pp w) ?_;refine gp (lo:=4) (hi:=5) (S:=sh (Eo w.params) 25 215) (S':=sh (JK w.params) 169 429) (pos:=⟨6,0,6,5⟩) (pos':=⟨7,0,186,27⟩) os (by decide) (PI w) ?_;refine gp (lo:=5) (hi:=9) (S:=sh (JK w.params) 169 429) (S':=sh (Fl w.params) 201 478) (pos:=⟨7,0,186,27⟩) (pos':=⟨194,0,194,8⟩) os (by decide) (PY w) ?_;refine gp (lo:=9) (hi:=10) (S:=sh (Fl w.params) 201 478) (S':=sh (E4 w.params) 203 569) (pos:=⟨194,0,194,8⟩) (pos':=⟨195,0,195,5⟩) os (by decide) (Qx w) ?_;refine gp (lo:=10) (hi:=14) (S:=sh (E4 w.params) 203 569) (S':=sh (La w.params) 304 708) (pos:=⟨195,0,195,5⟩) (pos':=⟨265,0,272,25⟩) os (by decide) (PZ w) ?_;refine gp (lo:=14) (hi:=18) (S:=sh (La w.params) 304 708) (S':=sh (Jc w.params) 366 808) (pos:=⟨265,0,272,25⟩) (pos':=⟨295,0,310,71⟩) os (by decide) (PK w) ?_;refine gp (lo:=18) (hi:=28) (S:=sh (Jc w.params) 366 808) (S':=sh (Jj w.params) 460 962) (pos:=⟨295,0,310,71⟩) (pos':=⟨390,0,398,23⟩) os (by decide) (PN w) ?_;refine gp (lo:=28) (hi:=43) (S:=sh (Jj w.params) 460 962) (S':=sh (pU w.params) 555 1139) (pos:=⟨390,0,398,23⟩) (pos':=⟨575,0,591,76⟩) os (by decide) (Qw w) ?_;rw [zH];exact piece_nil (congrFun (Mk w) os)
noncomputable def qV:Program:={pN with main:={pN.main with body:= [gB 42]}}
noncomputable def kz:List Str:= [nX,qt,qR,jz,jU,jQ,wR,lH,yf,xZ,AZ,m6,mV,nT,Dr,CN,C_,tE,Du,CF,B9,Ei,wZ,xK,Fu,II,xg,F7,xV,GS,Ij,Fz,xN,xr,FO,Iz]
theorem Nq(w:World):((boot_heap w.params).isNs mainGlobals && (#[]:Array GenState).size == 0,(boot_heap w.params).objs.size,(boot_heap w.params).nsMap mainGlobals "__annotations__")=(true,11,gc):=by kernel_rfl
theorem H4:opening pN=plainProg pN.main.scope.names:=by kernel_rfl
theorem Cv(s:Shared):fenceModules? pN s=some s:=by kernel_rfl
noncomputable def ES:List Nat:=List.range 555
noncomputable def Yf(s:Shared):List (Option Obj):=ES.map s.heap.get?
noncomputable def Ya(w:World):List (Option Obj):=ES.map (pU w.params).get
noncomputable def sF(w:World)(os:OsState):Shared:=⟨FA w.params,#[],{},1139,os⟩
theorem k1(w:World):staticsOk (importedModules pN.main.body) (boot_heap w.params) (FA w.params)=true:=by rw [PySem.W.Fast.te5923862056798008813];kernel_rfl
theorem k2(w:World):namesBound pN (FA w.params)=true:=by kernel_rfl
theorem k3(w:World)(os:OsState):gensDone (sF w os)=true:=by kernel_rfl
theorem k4(w:World):laidKept (boot_heap w.params) (FA w.params)=true:=by kernel_rfl
theorem k5(w:World)(os:OsState):openSeen qV kz (importedModules pN.main.body) (fun _=>true) true (sF w os)=openGood qV kz:=by rw [PySem.W.Fast.te5923862056798008813,PySem.W.Fast.te4187177175401517315];kernel_rfl
theorem k6(w:World)(os:OsState):Yf (sF w os)=Ya w:=by kernel_rfl
theorem left:LeftO pN qV kz (fun _=>true) Yf Ya 8616:=by refine LeftO.of_pieces (boot_open H4 (by kernel_rfl) Cv) Nq HQ (by kernel_rfl) fun w=>funext fun os=>?_;have e3:gensDone ⟨FA w.params,#[],{},1139,os⟩=true:=k3 w os;exact Prod.ext (by rw [k1,k2,k4,e3];rfl) (Prod.ext (k5 w os) (k6 w os))
noncomputable def Kept(w:World)(h:Heap):Prop:=∀a o,a < 555->(pU w.params).get a=some o->h.get? a=some o
theorem Da(w:World)(s:Shared)(e:Yf s=Ya w):Kept w s.heap:=fun a o ha ho=>by
 have:=List.map_inj_left.mp e a (List.mem_range.mpr ha);rw [this];exact ho
noncomputable abbrev uc:OpenLaw:={prog:=pN,name:="law",about:= ["RowWriter","check"],foot:=23,most:=some 63,bound:=none,writes:=false}
theorem JN:PySem.Challenge.rw_nt0111_01=uc:=by unfold PySem.Challenge.rw_nt0111_01;rfl
theorem OE:uc.wellSaid=true:=by rw [PySem.W.Fast.te9446332074065402090];kernel_rfl
theorem uJ(w:World)(h h':Heap)(k:Kept w h)(e:∀b o,h.get? b=some o->h'.get? b=some o):Kept w h':=fun a o ha ho=>e a o (k a o ha ho)
noncomputable abbrev dL:DefRec:={name:=Hm,params:=xj (gB 42),body:=AW (gB 42),scope:=EA (gB 42),pos:=⟨575,0,591,76⟩}
theorem Ms:defOf qV "law"=some (dL,[]):=by kernel_rfl
theorem K7:pN.theDef "law"=some (dL.params,dL.body,dL.scope):=by kernel_rfl
theorem kwOk:kwWritten? dL.params.kwonlyargs dL.params.kw_defaults=some []:=by kernel_rfl
theorem Nj:(chainsOk qV && opensWell pN && (frees uc.row.toRowW && uc.row.within.isEmpty))=true:=by kernel_rfl
theorem Qi:uc.row.toRowW.promised:=by exact⟨[.list []],by kernel_rfl,by kernel_rfl⟩
theorem Am(O:WalkO qV kz (fun _ _=>True) Kept uc.row.toRowW dL [] fun f vs=>PySem.call f vs):PySem.Challenge.rw_nt0111_01.Holds:=by rw [JN];refine holds_law OE fun s=>?_;exact holds_open (r:=uc.row) (q:=qV) (loose:=kz) left Da uJ (fun _ _=>trivial) (fun _ _ _ _ _=>trivial) Ms K7 kwOk (fun s _=>recFacts_nil rfl) rfl s Nj ⟨rfl,rfl,rfl,rfl,rfl,by kernel_rfl⟩ Qi O
end
section
open PySem
set_option genCtorIdx true in
inductive V where
 |none|bool (b:Bool)|int (i:Int)|lit (n:Nat)|txt (s:Str)|msg (n:Nat)
 |tup (xs:List V)|fl (xs:List V)|ref (k:Nat)|rng (lo hi:Int)|gd (g:Nat)|clo (l:Expr) (env:List (Nat×V))
set_option genCtorIdx true in
inductive aB where
 |gone|list (rs:List V) (n:Nat)|rows (up:Bool) (l:Nat) (cs:List (V×V×V×V×V))|dI (es:List (Int×V)) (ep:Nat)|dL (es:List (Nat×V)) (ep:Nat)|inst (c:Nat) (fs:List (Nat×V))
abbrev cW:=List (Str×NameKind)
inductive Tr where
 |nl|nd (l:List (Nat×aB)) (a b:Tr)
section
variable{α β K:Type}
def aL(eq:K->K->Bool)(es:List (K×α))(k:K):Option α:=@List.rec (K×α) (fun Y=>Option α) none (fun p Y ih=>@Prod.rec K α (fun Y=>Option α) (fun a v=>@Bool.rec (fun Y=>Option α) ih (some v) (eq a k)) p) es
def aP(eq:K->K->Bool)(k:K)(v:α)(es:List (K×α)):List (K×α):=@List.rec (K×α) (fun Y=>List (K×α)) [(k,v)] (fun p r ih=>@Prod.casesOn K α (fun Y=>List (K×α)) p fun a w=>@Bool.rec (fun Y=>List (K×α)) ((a,w)::ih) ((a,v)::r) (eq a k)) es
def aD(eq:K->K->Bool)(k:K)(es:List (K×α)):List (K×α):=@List.rec (K×α) (fun Y=>List (K×α)) [] (fun p r ih=>@Prod.casesOn K α (fun Y=>List (K×α)) p fun a w=>@Bool.rec (fun Y=>List (K×α)) ((a,w)::ih) r (eq a k)) es
noncomputable def iE(a b:Int):Bool:=@Int.casesOn (fun Y=>Bool) a (fun m=>@Int.casesOn (fun Y=>Bool) b (fun n=>Nat.beq m n) fun Y=>false) (fun m=>@Int.casesOn (fun Y=>Bool) b (fun Y=>false) fun n=>Nat.beq m n)
end
section
variable{α β:Type}
def bC(xs:List α):List α:=@List.rec α (fun Y=>List α->List α) (fun bx=>bx) (fun x Y ih bx=>ih (x::bx)) xs []
def aq(xs:List α):Nat:=@List.rec α (fun Y=>Nat) 0 (fun Y Y ih=>Nat.succ ih) xs
def dq(f:α->β)(xs:List α):List β:=@List.rec α (fun Y=>List β) [] (fun x Y ih=>f x::ih) xs
def DM(xs ys:List α):List α:=@List.rec α (fun Y=>List α) ys (fun x Y ih=>x::ih) xs
def K9(xs:List α):Nat->List α:=@List.rec α (fun Y=>Nat->List α) (fun Y=> []) (fun x r ih n=>@Nat.casesOn (fun Y=>List α) n (x::r) ih) xs
def Ol(xs:List α):Nat->List α:=@List.rec α (fun Y=>Nat->List α) (fun Y=> []) (fun x r ih n=>@Nat.casesOn (fun Y=>List α) n [] fun n=>x::ih n) xs
def pY(v:α)(xs:List α):Nat->List α:=@List.rec α (fun Y=>Nat->List α) (fun Y=> []) (fun x r ih n=>@Nat.casesOn (fun Y=>List α) n (v::r) fun n=>x::ih n) xs
def wP(xs:List α):Nat->List α:=@List.rec α (fun Y=>Nat->List α) (fun Y=> []) (fun x r ih n=>@Nat.casesOn (fun Y=>List α) n r fun n=>x::ih n) xs
def lN(xs:List α):Nat->Option α:=@List.rec α (fun Y=>Nat->Option α) (fun Y=>none) (fun x Y ih n=>@Nat.casesOn (fun Y=>Option α) n (some x) ih) xs
end
def GV(n:Nat):List Bool:=@Nat.rec (fun Y=>Nat->List Bool) (fun Y=> []) (fun Y ih n=>@Bool.rec (fun Y=>List Bool) [] (Nat.beq (Nat.mod n 2) 0::ih (Nat.div n 2)) (Nat.ble 2 n)) 12 (Nat.succ n)
def Tr.get(k:Nat)(t:Tr):List Bool->Option aB:=@Tr.rec (fun Y=>List Bool->Option aB) (fun Y=>none) (fun l Y Y iha ihb p=>@List.rec Bool (fun Y=>Option aB) (aL Nat.beq l k) (fun b p Y=>@Bool.rec (fun Y=>Option aB) (iha p) (ihb p) b) p) t
def Tr.put(k:Nat)(o:aB)(p:List Bool):Tr->Tr:=@List.rec Bool (fun Y=>Tr->Tr) (fun t=>@Tr.rec (fun Y=>Tr) (.nd [(k,o)] .nl .nl) (fun l a b Y Y=>.nd (aP Nat.beq k o l) a b) t)
 (fun b Y ih t=>@Tr.rec (fun Y=>Tr) (@Bool.rec (fun Y=>Tr) (.nd [] (ih .nl) .nl) (.nd [] .nl (ih .nl)) b) (fun l x y Y Y=>@Bool.rec (fun Y=>Tr) (.nd l (ih x) y) (.nd l x (ih y)) b) t) p
structure Hp where
 lo:Nat->Option aB
 b:Nat
 t:Tr
 next:Nat
 used:List Nat
def Hp.cas(h:Hp)(k:(Nat->Option aB)->Nat->Tr->Nat->List Nat->β):β:=@Hp.rec (fun Y=>β) k h
def bD(lo:Nat->Option aB)(i:Nat)(o:aB):Nat->Option aB:=fun j=>@Bool.rec (fun Y=>Option aB) (lo j) (some o) (Nat.beq j i)
def Hp.obj(h:Hp)(i:Nat):Option aB:=@Hp.rec (fun Y=>Option aB) (fun lo b t n u=>@Bool.rec (fun Y=>Option aB) (lo i) (t.get i (GV (Nat.sub i b))) (Nat.ble b i)) h
def Hp.set(h:Hp)(i:Nat)(o:aB):Hp:=@Hp.rec (fun Y=>Hp) (fun lo b t n u=>@Bool.rec (fun Y=>Hp) ⟨bD lo i o,b,t,n,u⟩ ⟨lo,b,t.put i o (GV (Nat.sub i b)),n,u⟩ (Nat.ble b i)) h
def Hp.up(h:Hp):Hp:=h.cas fun lo b t n u=>⟨lo,b,t,Nat.succ n,u⟩
def Hp.new(h:Hp)(o:aB):Hp:=(h.set h.next o).up
def Hp.cut (h:Hp) (b:Nat):Hp:=h.cas fun Y Y Y Y u=>⟨h.obj,b,.nl,b,u⟩
def Hp.use(h:Hp)(l:Nat):Hp:=h.cas fun lo b t n u=>⟨lo,b,t,n,l::u⟩
def dt(h:Hp)(o:aB)(k:V->Hp->β):β:=h.cas fun lo b t n u=>k (.ref n) (@Bool.rec (fun Y=>Hp) ⟨bD lo n o,b,t,Nat.succ n,u⟩ ⟨lo,b,t.put n o (GV (Nat.sub n b)),Nat.succ n,u⟩ (Nat.ble b n))
abbrev KX:=Option (V×Hp)
def ag(o:Option α)(k:α->KX):KX:=@Option.rec α (fun Y=>KX) none k o
def OC(b:Bool)(x:KX):KX:=@Bool.rec (fun Y=>KX) none x b
def ay(b:Bool)(x y:KX):KX:=@Bool.rec (fun Y=>KX) y x b
def OV(o:Option α)(e:KX)(k:α->KX):KX:=@Option.rec α (fun Y=>KX) e k o
def aj{β:Type}(o:Option α)(k:α->Option β):Option β:=@Option.rec α (fun Y=>Option β) none k o
def bg{β:Type}(b:Bool)(x:Option β):Option β:=@Bool.rec (fun Y=>Option β) none x b
noncomputable def vInt(v:V):Option (Int):=@V.casesOn (fun Y=>Option (Int)) v none (fun Y=>none) some (fun Y=>none) (fun Y=>none) (fun Y=>none) (fun Y=>none) (fun Y=>none) (fun Y=>none) (fun Y Y=>none) (fun Y=>none) (fun Y Y=>none)
noncomputable def vBool(v:V):Option (Bool):=@V.casesOn (fun Y=>Option (Bool)) v none some (fun Y=>none) (fun Y=>none) (fun Y=>none) (fun Y=>none) (fun Y=>none) (fun Y=>none) (fun Y=>none) (fun Y Y=>none) (fun Y=>none) (fun Y Y=>none)
noncomputable def di(v:V):Option (Nat):=@V.casesOn (fun Y=>Option (Nat)) v none (fun Y=>none) (fun Y=>none) some (fun Y=>none) (fun Y=>none) (fun Y=>none) (fun Y=>none) (fun Y=>none) (fun Y Y=>none) (fun Y=>none) (fun Y Y=>none)
noncomputable def JL(v:V):Option (Str):=@V.casesOn (fun Y=>Option (Str)) v none (fun Y=>none) (fun Y=>none) (fun Y=>none) some (fun Y=>none) (fun Y=>none) (fun Y=>none) (fun Y=>none) (fun Y Y=>none) (fun Y=>none) (fun Y Y=>none)
noncomputable def iJ(v:V):Option (List V):=@V.casesOn (fun Y=>Option (List V)) v none (fun Y=>none) (fun Y=>none) (fun Y=>none) (fun Y=>none) (fun Y=>none) some (fun Y=>none) (fun Y=>none) (fun Y Y=>none) (fun Y=>none) (fun Y Y=>none)
noncomputable def mQ(v:V):Option (Nat):=@V.casesOn (fun Y=>Option (Nat)) v none (fun Y=>none) (fun Y=>none) (fun Y=>none) (fun Y=>none) (fun Y=>none) (fun Y=>none) (fun Y=>none) some (fun Y Y=>none) (fun Y=>none) (fun Y Y=>none)
noncomputable def Pk(v:V):Option (Nat):=@V.casesOn (fun Y=>Option (Nat)) v none (fun Y=>none) (fun Y=>none) (fun Y=>none) (fun Y=>none) (fun Y=>none) (fun Y=>none) (fun Y=>none) (fun Y=>none) (fun Y Y=>none) some (fun Y Y=>none)
noncomputable def Gv(v:V)(n:β)(k:Int->Int->β):β:=@V.casesOn (fun Y=>β) v n (fun Y=>n) (fun Y=>n) (fun Y=>n) (fun Y=>n) (fun Y=>n) (fun Y=>n) (fun Y=>n) (fun Y=>n) k (fun Y=>n) (fun Y Y=>n)
noncomputable def Gx(v:V)(n:β)(k:Expr->List (Nat×V)->β):β:=@V.casesOn (fun Y=>β) v n (fun Y=>n) (fun Y=>n) (fun Y=>n) (fun Y=>n) (fun Y=>n) (fun Y=>n) (fun Y=>n) (fun Y=>n) (fun Y Y=>n) (fun Y=>n) k
def Cp(v:V):Option (Nat):=@V.casesOn (fun Y=>Option (Nat)) v none (fun Y=>none) (fun Y=>none) (fun n=>bg (Nat.blt n (2 ^ 800)) (some 100)) (fun Y=>none) some (fun Y=>none) (fun Y=>none) (fun Y=>none) (fun Y Y=>none) (fun Y=>none) (fun Y Y=>none)
noncomputable def lh(v:V):Option (Bool):=@V.casesOn (fun Y=>Option (Bool)) v (some true) (fun Y=>none) (fun Y=>some false) (fun Y=>some false) (fun Y=>none) (fun Y=>none) (fun Y=>some false) (fun Y=>some false) (fun Y=>some false) (fun Y Y=>none) (fun Y=>none) (fun Y Y=>some false)
noncomputable def dR(o:aB)(n:β)(k:List V->Nat->β):β:=@aB.casesOn (fun Y=>β) o n k (fun Y Y Y=>n) (fun Y Y=>n) (fun Y Y=>n) (fun Y Y=>n)
noncomputable def EZ(o:aB)(n:β)(k:Bool->Nat->List (V×V×V×V×V)->β):β:=@aB.casesOn (fun Y=>β) o n (fun Y Y=>n) k (fun Y Y=>n) (fun Y Y=>n) (fun Y Y=>n)
noncomputable def oI(o:aB)(n:β)(k:List (Int×V)->Nat->β):β:=@aB.casesOn (fun Y=>β) o n (fun Y Y=>n) (fun Y Y Y=>n) k (fun Y Y=>n) (fun Y Y=>n)
noncomputable def oL(o:aB)(n:β)(k:List (Nat×V)->Nat->β):β:=@aB.casesOn (fun Y=>β) o n (fun Y Y=>n) (fun Y Y Y=>n) (fun Y Y=>n) k (fun Y Y=>n)
noncomputable def yi(o:aB)(n:β)(k:Nat->List (Nat×V)->β):β:=@aB.casesOn (fun Y=>β) o n (fun Y Y=>n) (fun Y Y Y=>n) (fun Y Y=>n) (fun Y Y=>n) k
def CG(h:Hp)(v:V)(n:β)(k:Nat->aB->β):β:=@V.casesOn (fun Y=>β) v n (fun Y=>n) (fun Y=>n) (fun Y=>n) (fun Y=>n) (fun Y=>n) (fun Y=>n) (fun Y=>n) (fun i=>@Option.rec aB (fun Y=>β) n (k i) (h.obj i)) (fun Y Y=>n) (fun Y=>n) (fun Y Y=>n)
def hL(h:Hp)(v:V)(n:β)(k:Nat->List V->Nat->β):β:=CG h v n fun i o=>dR o n (k i)
def gi(h:Hp)(v:V)(n:β)(k:Nat->Bool->Nat->List (V×V×V×V×V)->β):β:=CG h v n fun i o=>EZ o n (k i)
def iD(h:Hp)(v:V)(n:β)(k:Nat->List (Int×V)->Nat->β):β:=CG h v n fun i o=>oI o n (k i)
def rZ(h:Hp)(v:V)(n:β)(k:Nat->List (Nat×V)->Nat->β):β:=CG h v n fun i o=>oL o n (k i)
def ip(h:Hp)(v:V)(n:β)(k:Nat->Nat->List (Nat×V)->β):β:=CG h v n fun i o=>yi o n (k i)
def gV(h:Hp)(v:V):Option (List V):=@V.casesOn (fun Y=>Option (List V)) v none (fun Y=>none) (fun Y=>none) (fun Y=>none) (fun Y=>none) (fun Y=>none) (fun Y=>none) some (fun k=>aj (h.obj k) fun o=>dR o none fun rs Y=>some (bC rs)) (fun Y Y=>none) (fun Y=>none) (fun Y Y=>none)
def jR(h:Hp)(v:V):Option (List V):=@V.casesOn (fun Y=>Option (List V)) v none (fun Y=>none) (fun Y=>none) (fun Y=>none) (fun Y=>none) (fun Y=>none) some some (fun k=>aj (h.obj k) fun o=>dR o none fun rs Y=>some (bC rs)) (fun Y Y=>none) (fun Y=>none) (fun Y Y=>none)
inductive At where
 |n|i (x:Int)|l (x:Nat)|t (s:Str)
noncomputable def Ke(v:V):Option At:=@V.casesOn (fun Y=>Option At) v (some .n) (fun Y=>none) (fun x=>some (.i x)) (fun x=>some (.l x)) (fun x=>some (.t x)) (fun Y=>none) (fun Y=>none) (fun Y=>none) (fun Y=>none) (fun Y Y=>none) (fun Y=>none) fun Y Y=>none
def aE(a b:At):Option Bool:=@At.casesOn (fun Y=>Option Bool) a
 (@At.casesOn (fun Y=>Option Bool) b (some true) (fun Y=>some false) (fun Y=>some false) fun Y=>some false)
 (fun x=>@At.casesOn (fun Y=>Option Bool) b (some false) (fun y=>some (iE x y)) (fun Y=>some false) fun Y=>some false)
 (fun x=>@At.casesOn (fun Y=>Option Bool) b (some false) (fun Y=>some false) (fun y=>some (Nat.beq x y)) fun Y=>none)
 (fun x=>@At.casesOn (fun Y=>Option Bool) b (some false) (fun Y=>some false) (fun Y=>none) fun y=>some (W.Fast.sEq x y))
def rL(x y:V):Option Bool:=aj (Ke x) fun a=>aj (Ke y) fun b=>aE a b
def tV(f:V->V->Option Bool)(xs:List V):List V->Option Bool:=@List.rec V (fun Y=>List V->Option Bool) (fun ys=>@List.casesOn V (fun Y=>Option Bool) ys (some true) fun Y Y=>some false)
 (fun x Y ih ys=>@List.casesOn V (fun Y=>Option Bool) ys (some false) fun y r=>aj (f x y) fun c=>aj (ih r) fun d=>some (and c d)) xs
def lR(x y:V):Option Bool:=@Option.rec (List V) (fun Y=>Option Bool) (rL x y) (fun xs=>aj (iJ y) fun ys=>tV rL xs ys) (iJ x)
def IZ(fs:List (Int×V))(es:List (Int×V)):Option Bool:=@List.rec (Int×V) (fun Y=>Option Bool) (some true)
 (fun p Y ih=>@Prod.casesOn Int V (fun Y=>Option Bool) p fun i v=>@Option.rec V (fun Y=>Option Bool) (some false) (fun u=>aj (lR v u) fun c=>aj ih fun d=>some (and c d)) (aL iE fs i)) es
def EB(h:Hp)(x y:V):Option Bool:=@Option.rec (List V) (fun Y=>Option Bool)
 (iD h x (lR x y) fun Y es Y=>iD h y none fun Y fs Y=>@Bool.rec (fun Y=>Option Bool) (some false) (IZ fs es) (Nat.beq (aq es) (aq fs)))
 (fun xs=>aj (gV h y) fun ys=>@Bool.rec (fun Y=>Option Bool) (some false) (tV lR xs ys) (Nat.beq (aq xs) (aq ys))) (gV h x)
def nq(x:V)(ys:List V):Option Bool:=@List.rec V (fun Y=>Option Bool) (some false) (fun y Y ih=>aj (lR y x) fun c=>aj ih fun d=>some (or c d)) ys
def cL(l:List Nat):Nat:=@List.rec Nat (fun Y=>Nat) 0 (fun c Y n=>Nat.add c (Nat.mul 256 n)) l
def cS(x:Str):Nat:=cL x.cps.toList
def cN(s:String):Nat:=cS (Str.ofString s)
def i5(x:Str):Bool:=@List.rec Nat (fun Y=>Bool) true (fun c Y ih=>and (and (Nat.blt 0 c) (Nat.blt c 256)) ih) x.cps.toList
def qo(g:Nat):List (Nat×V):=@Bool.rec (fun Y=>List (Nat×V)) (@Bool.rec (fun Y=>List (Nat×V)) []
 [(1869901639,.int 1),(422877294407,.int 1),(1701015119,.int 1),(26185,.int 1),(500083615305,.int 1),(119213080343369,.int 1),(30518548567977806,.int 1),(495788779081,.int 1),(2147769306903875908941,.int 1),(135916593373344577190981443,.int 1),(110425378612562,.int 1),(1953718604,.int 1),(1954047310,.int 1),(1986359888,.int 1),(1852274072666945971539,.int 1),(76173046801747,.int 1),(92665721218387,.int 1),(76194521638227,.int 1),(92687196054867,.int 1),(361976325193,.int 1),(297551815753,.int 1),(362060211273,.int 1),(297635701833,.int 1),(431349919558,.int 1),(7236850772014821198,.int 1),(549628336235472056708942,.int 1),(2129766734972602052430,.int 1),(549905462718423081578323,.int 1),(550015421199550076055379,.int 1),(9148201985549612100073322475081,.int 1)] (Nat.beq g 2))
 [(500136108641,.int 0),(28538242730059122,.int 0),(111542170183529,.int 0),(7738135660106379122,.int 1),(1818845542,.int 2)] (Nat.beq g 1)
def mw(h:Hp)(d x:V):Option (Option V):=@Option.rec Nat (fun Y=>Option (Option V))
 (iD h d (rZ h d none fun Y es Y=>aj (di x) fun k=>some (aL Nat.beq es k)) fun Y es Y=>aj (vInt x) fun k=>some (aL iE es k))
 (fun g=>bg (not (qo g).isEmpty) (aj (di x) fun k=>some (aL Nat.beq (qo g) k))) (Pk d)
def isIn(h:Hp)(x d:V):Option Bool:=@Option.rec (List V) (fun Y=>Option Bool) (aj (mw h d x) fun o=>some o.isSome) (nq x) (jR h d)
def gU(h:Hp)(v:V):Option Bool:=@Option.rec Bool (fun Y=>Option Bool)
 (hL h v (@Option.rec (List V) (fun Y=>Option Bool) (aj (lh v) fun b=>bg b (some false)) (fun xs=>bg (Nat.ble (aq xs) 65536) (some (not (Nat.beq (aq xs) 0)))) (gV h v)) fun Y Y c=>bg (Nat.ble c 65536) (some (not (Nat.beq c 0)))) some (vBool v)
def I_(n:Nat)(i:Int):Option Nat:=@Int.casesOn (fun Y=>Option Nat) i (fun j=>bg (Nat.blt j n) (some j)) fun j=>bg (Nat.blt j n) (some (Nat.sub n (Nat.succ j)))
def aR(h:Hp)(a i:V):Option V:=hL h a
 (@Option.rec (List V) (fun Y=>Option V) (aj (mw h a i) fun o=>o) (fun xs=>bg (Nat.ble (aq xs) 65536) (aj (vInt i) fun j=>aj (I_ (aq xs) j) fun n=>lN xs n)) (jR h a))
 fun Y rs c=>bg (Nat.ble c 65536) (aj (vInt i) fun j=>aj (I_ c j) fun n=>lN rs (Nat.sub c (Nat.succ n)))
def me(a i:V):Option V:=aj (iJ a) fun xs=>aj (vInt i) fun j=>@Int.casesOn (fun Y=>Option V) j (fun j=>bg (and (Nat.ble 1 j) (and (Nat.ble j (aq xs)) (Nat.ble (aq xs) 60000))) (some (.tup (K9 xs j)))) fun Y=>none
def x6(a i:V):Option V:=aj (iJ a) fun xs=>aj (vInt i) fun j=>@Int.casesOn (fun Y=>Option V) j (fun j=>bg (and (Nat.blt j (aq xs)) (Nat.ble (aq xs) 60000)) (some (.tup (Ol xs j)))) fun Y=>none
def qs{α:Type}(o:Option α)(ep:Nat):Nat:=@Option.rec α (fun Y=>Nat) (Nat.succ ep) (fun Y=>ep) o
def eP(h:Hp)(a i v:V):Option Hp:=hL h a
 (iD h a (rZ h a none fun j es ep=>aj (di i) fun k=>bg (Nat.ble (aq es) 60000) (some (h.set j (.dL (aP Nat.beq k v es) (qs (aL Nat.beq es k) ep)))))
  fun j es ep=>aj (vInt i) fun k=>bg (Nat.ble (aq es) 60000) (some (h.set j (.dI (aP iE k v es) (qs (aL iE es k) ep)))))
 fun l rs c=>bg (Nat.ble c 65536) (aj (vInt i) fun j=>@Int.casesOn (fun Y=>Option Hp) j (fun j=>bg (Nat.blt j c) (some (h.set l (.list (pY v rs (Nat.sub c (Nat.succ j))) c)))) fun Y=>none)
def gJ(l:List (Nat×Nat))(f:Nat):Option Nat:=aL Nat.beq l f
def MY(f:Nat):Option Nat:=gJ [(1818845542,2),(123836376964100440856159602,1),(34493592889344084795495703908,5),(122618043015082371160239971,4),(111546565289330,3),(461229090915,11),(122641728202117592946402674,12),(112628529194347,10),(139538485545997902115334243,6),(139543317441712559271274595,7),(121390633635295002043443299,8),(31399965885130828395336525923,9),(474182162637871001592180,14),(474182162637871185749355,15),(33618059247183214,16),(7632240,13),(6872339552563453791,0)] f
def PU(f:Nat):Option Nat:=gJ [(435761734006,23),(8243122732010005874,21),(125823003817315,22),(6579297,18),(465557414252,19),(435459026032,20),(114844899371366,24),(6872339552563453791,17)] f
def Qn(f:Nat):Option Nat:=gJ [(6872339552563453791,26)] f
def Qv(f:Nat):Option Nat:=gJ [(6872339552563453791,27)] f
def P8(f:Nat):Option Nat:=gJ [(544942865495848080795233,29),(6872339552563453791,28)] f
noncomputable def CB{α:Type}(z a b c d e:α)(n:Nat):α:=@Nat.casesOn (fun Y=>α) n a fun n=>@Nat.casesOn (fun Y=>α) n b fun n=>@Nat.casesOn (fun Y=>α) n c fun n=>@Nat.casesOn (fun Y=>α) n d fun n=>@Nat.casesOn (fun Y=>α) n e fun Y=>z
def jO(c f:Nat):Option Nat:=CB none (MY f) (PU f) (Qn f) (Qv f) (P8 f) c
def B7(l:List Nat)(f:Nat):Bool:=@List.rec Nat (fun Y=>Bool) false (fun y Y ih=>@Bool.rec (fun Y=>Bool) ih true (Nat.beq y f)) l
def P2(f:Nat):Bool:=B7 [30787916450984560,435610083700,8386662845389893475,500069396323,1702060386,125823003817315,9146654716209542448838493892201,126905066285155,8319393663061222756,1937335659] f
def Qg(f:Nat):Bool:=B7 [7565423,32491038722256739,2129618691208608441714,32495445325542755,495874698355,126879581958775,126909394608492,511885790367812037404014] f
def Qo(f:Nat):Bool:=B7 [1701667182,1871002853623542610292,8751735898823353953,2037169923880594992995,7812748570489286510,32770348699510116] f
def P1(f:Nat):Bool:=B7 [1701667182,435610083700,1953460082,32491038722256739,111555088313973,121398985585263,7106931] f
def Px(f:Nat):Bool:=B7 [1701667182,1953460082,32491038722256739,122570819210907029706600306,32481190093287017,126905066285155,7106931,34184234955010672] f
def kR(c f:Nat):Bool:=CB false (P2 f) (Qg f) (Qo f) (P1 f) (Px f) c
def bO(h:Hp)(a:V)(f:Nat):Option V:=ip h a none fun Y Y fs=>aL Nat.beq fs f
def sP(h:Hp)(a:V)(f:Nat)(v:V):Option Hp:=ip h a none fun i c fs=>bg (kR c f) (bg (Nat.ble (aq fs) 100) (some (h.set i (.inst c (aP Nat.beq f v fs)))))
inductive It where
 |l (xs:List V)|r (lo hi:Int)|d (a:V) (i n ep:Nat)|g (up:Bool) (cs:List (V×V×V×V×V))
def Ef(up:Bool)(c:V×V×V×V×V):V:=@Bool.rec (fun Y=>V) (.tup [c.2.1,c.2.2.1,c.2.2.2.1,c.2.2.2.2]) (.tup [c.1,.tup [c.2.1,c.2.2.1,c.2.2.2.1,c.2.2.2.2]]) up
noncomputable def jx(a b:Int):Bool:=decide (-1000000000000<=a/\b<=1000000000000/\a<=1000000000000/\ -1000000000000<=b)
def bR(h:Hp)(a:V)(k:Nat->It->Hp->Option β):Option β:=hL h a
 (@Option.rec (List V) (fun Y=>Option β) (Gv a (iD h a (gi h a none fun i up l cs=>k l (.g up cs) (h.set i .gone)) fun Y es ep=>k (aq es) (.d a 0 (aq es) ep) h) fun lo hi=>bg (jx lo hi) (k (Int.toNat (Int.sub hi lo)) (.r lo hi) h)) (fun xs=>k (aq xs) (.l xs) h) (jR h a))
 fun i rs c=>k c (.l (bC rs)) (h.set i .gone)
def be(h₀:Hp)(a:V)(h:Hp):Hp:=hL h₀ a (gi h₀ a h fun i up l cs=>h.set i (.rows up l cs)) fun i rs c=>h.set i (.list rs c)
def eQ(t:It)(h:Hp)(e:Option β)(k:V->It->Option β):Option β:=@It.casesOn (fun Y=>Option β) t
 (fun xs=>@List.casesOn V (fun Y=>Option β) xs e fun x r=>k x (.l r))
 (fun lo hi=>@Bool.rec (fun Y=>Option β) e (k (.int lo) (.r (Int.add lo 1) hi)) (decide (lo < hi)))
 (fun a i n ep=>iD h a none fun Y es q=>bg (and (Nat.beq q ep) (Nat.beq (aq es) n)) (@Option.rec (Int×V) (fun Y=>Option β) e (fun p=>@Prod.casesOn Int V (fun Y=>Option β) p fun x Y=>k (.int x) (.d a (Nat.succ i) n ep)) (lN es i)))
 (fun up cs=>@List.casesOn (V×V×V×V×V) (fun Y=>Option β) cs e fun c r=>k (Ef up c) (.g up r))
def n6{β:Type}(a b:V)(f:Int->Int->Option β):Option β:=aj (vInt a) fun x=>aj (vInt b) fun y=>f x y
def cm(h:Hp)(a b:V):Option V:=@Option.rec Int (fun Y=>Option V)
 (@Option.rec Nat (fun Y=>Option V) (aj (gV h a) fun xs=>aj (gV h b) fun ys=>bg (Nat.ble (Nat.add (aq xs) (aq ys)) 60000) (some (.fl (DM xs ys)))) (fun m=>aj (Cp b) fun n=>bg (Nat.ble (Nat.add m n) 60000) (some (.msg (Nat.add m n)))) (Cp a))
 (fun x=>aj (vInt b) fun y=>some (.int (Int.add x y))) (vInt a)
def eC(h:Hp)(op:Operator)(a b:V):Option V:=@Operator.casesOn (fun Y=>Option V) op (cm h a b) (n6 a b fun x y=>some (.int (Int.sub x y)))
 (n6 a b fun x y=>bg (decide (x.natAbs < 2 ^ 64\/y.natAbs < 2 ^ 64)) (some (.int (x*y)))) none none
 (n6 a b fun x y=>bg (decide (0 < y)) (some (.int (x % y)))) (n6 a b fun x y=>bg (decide (x=10/\y=18)) (some (.int 1000000000000000000))) none none none none none
 (n6 a b fun x y=>bg (decide (0 < y/\y < 1000000000)) (some (.int (x / y))))
def Lh(a b:V)(f:Int->Int->Bool):Option Bool:=n6 a b fun x y=>some (f x y)
def ba(h:Hp)(op:CmpOp)(a b:V):Option Bool:=@CmpOp.casesOn (fun Y=>Option Bool) op (EB h a b) (bg (and (@Option.rec (List V) (fun Y=>Bool) true (fun Y=>false) (iJ a)) (@Option.rec (List V) (fun Y=>Bool) true (fun Y=>false) (iJ b))) (aj (EB h a b) fun c=>some (not c)))
 (Lh a b fun x y=>decide (x < y)) (Lh a b fun x y=>decide (x<=y)) (Lh a b fun x y=>decide (y < x)) (Lh a b fun x y=>decide (y<=x))
 (aj (lh b) fun c=>bg c (lh a)) (aj (lh b) fun c=>bg c (aj (lh a) fun d=>some (not d))) (isIn h a b) (aj (isIn h a b) fun c=>some (not c))
def o0(l:List V):Option (List Int):=@List.rec V (fun Y=>Option (List Int)) (some []) (fun v Y ih=>aj (vInt v) fun i=>aj ih fun r=>some (i::r)) l
def mf(l:List V):Option (List Str):=@List.rec V (fun Y=>Option (List Str)) (some []) (fun v Y ih=>aj (JL v) fun i=>aj ih fun r=>some (i::r)) l
def yO(l:List V):Option (List Nat):=@List.rec V (fun Y=>Option (List Nat)) (some []) (fun v Y ih=>aj (Cp v) fun i=>aj ih fun r=>some (i::r)) l
def rI(l:List Nat):Nat:=@List.rec Nat (fun Y=>Nat) 0 (fun x Y ih=>Nat.add x ih) l
def hM(l:List Int):Int->Int:=@List.rec Int (fun Y=>Int->Int) (fun i=>i) (fun x Y ih i=>ih (@Bool.rec (fun Y=>Int) i x (decide (i < x)))) l
def rK{α:Type}(le:α->α->Bool)(x:α)(l:List α):List α:=@List.rec α (fun Y=>List α) [x] (fun y r ih=>@Bool.rec (fun Y=>List α) (y::ih) (x::y::r) (le x y)) l
def c9{α:Type}(le:α->α->Bool)(l:List α):List α:=@List.rec α (fun Y=>List α) [] (fun x Y ih=>rK le x ih) l
noncomputable def u9(a b:Int):Bool:=decide (a<=b)
noncomputable def ug(a b:Str):Bool:=not (Spec.ltCps b.cps.toList a.cps.toList)
def Nn(v:V):Option PyData:=@Option.rec Int (fun Y=>Option PyData) (aj (lh v) fun b=>bg b (some .none)) (fun i=>bg (decide (i.natAbs < 1000000000)) (some (.int i))) (vInt v)
def wM(l:List V):Option (List PyData):=@List.rec V (fun Y=>Option (List PyData)) (some []) (fun v Y ih=>aj (Nn v) fun i=>aj ih fun r=>some (i::r)) l
abbrev VH(β:Type):=V->Hp->Option β
def pr(h:Hp)(k:VH β)(o:Option V):Option β:=aj o fun v=>k v h
def eV(f:Nat)(a:V)(h:Hp)(k:VH β):Option β:=@Nat.casesOn (fun Y=>Option β) f (hL h a (aj (gV h a) fun xs=>bg (Nat.ble (aq xs) 65536) (k (.int (Int.ofNat (aq xs))) h)) fun Y Y c=>bg (Nat.ble c 65536) (k (.int (Int.ofNat c)) h)) fun f=>
 @Nat.casesOn (fun Y=>Option β) f (aj (vInt a) fun n=>bg (decide (-1000000000000<=n/\n<=1000000000000)) (k (.rng 0 n) h)) fun f=>
 @Nat.casesOn (fun Y=>Option β) f (aj (gV h a) fun xs=>aj (o0 xs) fun is=>bg (Nat.ble (aq xs) 60000) (@List.casesOn Int (fun Y=>Option β) is none fun i r=>k (.int (hM r i)) h)) fun f=>
 @Nat.casesOn (fun Y=>Option β) f (@Option.rec Int (fun Y=>Option β) (aj (vBool a) fun b=>k (.int (@Bool.rec (fun Y=>Int) 0 1 b)) h) (fun i=>k (.int i) h) (vInt a)) fun f=>
 @Nat.casesOn (fun Y=>Option β) f (iD h a none fun Y es Y=>bg (Nat.ble (aq es) 60000) (k (.fl (dq (fun e=>.int e.1) es)) h)) fun f=>
 @Nat.casesOn (fun Y=>Option β) f (iD h a none fun Y es Y=>bg (Nat.ble (aq es) 8) (dt h (.dI es (aq es)) k)) fun f=>
 @Nat.casesOn (fun Y=>Option β) f (aj (gV h a) fun xs=>bg (Nat.ble (aq xs) 60000) (k (.tup xs) h)) fun f=>
 @Nat.casesOn (fun Y=>Option β) f (iD h a (aj (gV h a) fun xs=>aj (mf xs) fun ss=>bg (Nat.blt (aq ss) 60) (k (.fl (dq .txt (c9 ug ss))) h))
  fun Y es Y=>bg (Nat.blt (aq es) 60) (k (.fl (dq .int (c9 u9 (dq (fun e=>e.1) es)))) h)) fun f=>
 @Nat.casesOn (fun Y=>Option β) f (aj (iJ a) fun xs=>bg (Nat.ble (aq xs) 8) (aj (wM xs) fun ds=>k (.txt (PyData.tuple ds).shown) h)) fun Y=>none
def Ed(f:Nat)(a b:V)(h:Hp)(k:VH β):Option β:=@Nat.casesOn (fun Y=>Option β) f none fun f=>
 @Nat.casesOn (fun Y=>Option β) f (n6 a b fun m n=>bg (jx m n) (k (.rng m n) h)) fun f=>
 @Nat.casesOn (fun Y=>Option β) f (n6 a b fun x y=>k (.int (@Bool.rec (fun Y=>Int) x y (decide (x < y)))) h) fun Y=>none
def gT(f:Nat)(xs:List V)(h:Hp)(k:VH β):Option β:=@List.casesOn V (fun Y=>Option β) xs none fun a r=>@List.casesOn V (fun Y=>Option β) r (eV f a h k) fun b r=>@List.casesOn V (fun Y=>Option β) r (Ed f a b h k) fun Y Y=>none
def j0(f:Nat)(a:V)(h:Hp):Bool:=@Nat.casesOn (fun Y=>Bool) f (hL h a false fun Y Y Y=>true) fun f=>@Nat.casesOn (fun Y=>Bool) f (hL h a false fun Y Y Y=>true) fun f=>@Nat.casesOn (fun Y=>Bool) f (iD h a (rZ h a false fun Y Y Y=>true) fun Y Y Y=>true) fun f=>
 @Nat.casesOn (fun Y=>Bool) f (iD h a false fun Y Y Y=>true) fun f=>@Nat.casesOn (fun Y=>Bool) f (@Option.rec Nat (fun Y=>Bool) false (fun Y=>true) (di a)) fun Y=>false
def Ee(x:V)(ys:List V):Option (Option Nat):=@List.rec V (fun Y=>Option (Option Nat)) (some none) (fun y Y ih=>aj (lR y x) fun c=>aj ih fun r=>some (@Bool.rec (fun Y=>Option Nat) (aj r fun i=>some (Nat.succ i)) (some 0) c)) ys
def Ng(f:Nat)(a x:V)(h:Hp)(k:VH β):Option β:=@Nat.casesOn (fun Y=>Option β) f (hL h a none fun i rs c=>bg (Nat.blt c 60000) (k .none (h.set i (.list (x::rs) (Nat.succ c))))) fun f=>
 @Nat.casesOn (fun Y=>Option β) f (hL h a none fun l rs c=>bg (Nat.ble c 60000) (aj (Ee x (bC rs)) fun o=>aj o fun i=>k .none (h.set l (.list (bC (wP (bC rs) i)) (Nat.pred c))))) fun f=>
 @Nat.casesOn (fun Y=>Option β) f (aj (mw h a x) fun o=>k (@Option.rec V (fun Y=>V) .none (fun v=>v) o) h) fun f=>
 @Nat.casesOn (fun Y=>Option β) f (iD h a none fun i es ep=>aj (vInt x) fun j=>aj (aL iE es j) fun v=>bg (Nat.ble (aq es) 60000) (k v (h.set i (.dI (aD iE j es) (Nat.succ ep))))) fun f=>
 @Nat.casesOn (fun Y=>Option β) f (aj (di a) fun n=>bg (Nat.blt n (2 ^ 800)) (aj (gV h x) fun xs=>aj (yO xs) fun ns=>bg (Nat.ble (Nat.add (rI ns) (Nat.mul 100 (aq ns))) 60000) (k (.msg (Nat.add (rI ns) (Nat.mul 100 (aq ns)))) h))) fun Y=>none
def IM(f:Nat)(a x d:V)(h:Hp)(k:VH β):Option β:=@Nat.casesOn (fun Y=>Option β) f none fun f=>@Nat.casesOn (fun Y=>Option β) f none fun f=>
 @Nat.casesOn (fun Y=>Option β) f (aj (mw h a x) fun o=>k (@Option.rec V (fun Y=>V) d (fun v=>v) o) h) fun f=>
 @Nat.casesOn (fun Y=>Option β) f (iD h a none fun i es ep=>aj (vInt x) fun j=>bg (Nat.ble (aq es) 60000) (@Option.rec V (fun Y=>Option β) (k d h) (fun v=>k v (h.set i (.dI (aD iE j es) (Nat.succ ep)))) (aL iE es j))) fun Y=>none
def IQ(f:Nat)(a:V)(xs:List V)(h:Hp)(k:VH β):Option β:=@List.casesOn V (fun Y=>Option β) xs none fun x r=>@List.casesOn V (fun Y=>Option β) r (Ng f a x h k) fun d r=>@List.casesOn V (fun Y=>Option β) r (IM f a x d h k) fun Y Y=>none
end
section
open PySem PySem.W
inductive U1 where
 |attr (f:Nat)|neg|not|tst
inductive B2 where
 |bin (op:Operator)|cmp (op:CmpOp)|sub|sfr|sto
inductive C1 where
 |fn (f:Nat)|cls (c:Nat)|blt (f:Nat)|lst (mu:Bool)|tup|dct (ks:List Nat)
inductive X where
 |bad|var (c:Nat)|val (v:V)|u (o:U1) (a:X)|b (o:B2) (a b:X)|bl (stop:Bool) (a b:X)|ite (c a b:X)|c (o:C1) (as:X)
 |m (a:X) (f:Nat) (g:Option Nat) (as:X)|app (a as:X)|comp (mu:Bool) (fr:List Nat) (tu:Bool) (ts:List Nat) (it c e:X)|nil|cons (a r:X)
inductive T where
 |var (ce:Bool) (c:Nat)|attr (a:X) (f:Nat)|sub (a i:X)|bad
inductive S where
 |skip|seq (a b:S)|ex (a:X)|asg (t:T) (e:X)|tup (ts:List T) (e:X)|sw (cs:List Nat) (e:X)|lam (c:Nat) (fr:List Nat) (ln:Nat) (l:Expr)|ite (c:X) (a b:S)|for1 (t:T) (i:X) (b:S)|for2 (ts:List T) (i:X) (b:S)|ret (e:X)|brk|bad
abbrev Loc:=Nat->Option V
def ae(m:Loc)(i:Nat)(v:V):Loc:=fun j=>@Bool.rec (fun Y=>Option V) (m j) (some v) (Nat.beq j i)
inductive Fn where
 |fn (f:Nat)|clo (l:Expr) (env:List (Nat×V))
abbrev KV:=V->Hp->KX
abbrev KL:=Loc->Hp->KX
abbrev SE:=Loc->Hp->KV->KX
abbrev yd:=Loc->Hp->(List V->Hp->KX)->KX
abbrev ST:=Loc->Hp->V->KL->KX
abbrev SS:=Loc->Hp->KL->KL->KV->KX
abbrev CK:=Fn->List V->Hp->KV->KX
noncomputable def MD:SE:=fun Y Y Y=>none
noncomputable def lG:yd:=fun Y Y Y=>none
def ji(l:List Nat)(x:Nat):Bool:=@List.rec Nat (fun Y=>Bool) false (fun y Y ih=>@Bool.rec (fun Y=>Bool) ih true (Nat.beq y x)) l
def gN(x:Nat):SE:=fun m h k=>ag (m x) fun v=>k v h
section
variable(O:CK)
def rU(o:U1)(e:SE):SE:=@U1.casesOn (fun Y=>SE) o (fun f m h k=>e m h fun a h=>ag (bO h a f) fun v=>k v h) (fun m h k=>e m h fun a h=>ag (vInt a) fun i=>k (.int (Int.neg i)) h)
 (fun m h k=>e m h fun a h=>ag (gU h a) fun b=>k (.bool (not b)) h) (fun m h k=>e m h fun a h=>ag (gU h a) fun b=>k (.bool b) h)
noncomputable def yc(a b:SE)(m:Loc)(h:Hp)(k:V->V->Hp->KX):KX:=a m h fun x h=>b m h fun y h=>k x y h
def rB(o:B2)(a b:SE):SE:=@B2.casesOn (fun Y=>SE) o (fun op m h k=>yc a b m h fun x y h=>ag (eC h op x y) fun v=>k v h) (fun op m h k=>yc a b m h fun x y h=>ag (ba h op x y) fun c=>k (.bool c) h)
 (fun m h k=>yc a b m h fun x y h=>ag (aR h x y) fun v=>k v h) (fun m h k=>yc a b m h fun x y h=>ag (me x y) fun v=>k v h) (fun m h k=>yc a b m h fun x y h=>ag (x6 x y) fun v=>k v h)
def Mx(stop:Bool)(a b:SE):SE:=fun m h k=>a m h fun v h=>ag (gU h v) fun t=>ay (xor t stop) (b m h k) (k v h)
def FY(c a b:SE):SE:=fun m h k=>c m h fun v h=>ag (vBool v) fun t=>ay t (a m h k) (b m h k)
def ML(ks:List Nat):List V->List (Nat×V)->Nat->Option aB:=@List.rec Nat (fun Y=>List V->List (Nat×V)->Nat->Option aB) (fun vs es ep=>@List.casesOn V (fun Y=>Option aB) vs (some (.dL es ep)) fun Y Y=>none)
 (fun k Y r vs es ep=>@List.casesOn V (fun Y=>Option aB) vs none fun v vs=>r vs (aP Nat.beq k v es) (qs (aL Nat.beq es k) ep)) ks
def Qp(ks:List Nat)(vs:List V):Option aB:=@List.casesOn Nat (fun Y=>Option aB) ks (some (.dI [] 0)) fun Y Y=>ML ks vs [] 0
def r_(c:Nat):Option Nat:=jO c (6872339552563453791)
def rC(o:C1)(as:yd):SE:=@C1.casesOn (fun Y=>SE) o (fun f m h k=>as m h fun xs h=>O (.fn f) xs h k)
 (fun c m h k=>as m h fun xs h=>ag (r_ c) fun f=>dt h (.inst c []) fun r h=>O (.fn f) (r::xs) h fun v h=>ag (lh v) fun b=>ay b (k r h) none)
 (fun f m h k=>as m h fun xs h=>gT f xs h k) (fun mu m h k=>as m h fun xs h=>ay mu (dt h (.list (bC xs) (aq xs)) k) (k (.fl xs) h))
 (fun m h k=>as m h fun xs h=>k (.tup xs) h) (fun ks m h k=>as m h fun xs h=>ag (Qp ks xs) fun o=>dt h o k)
def rM(e:SE)(f:Nat)(g:Option Nat)(as:yd):SE:=fun m h k=>e m h fun a h=>ip h a
 (ag g fun j=>ay (j0 j a h) (as m h fun xs h=>IQ j a xs h k) none)
 fun Y c fs=>ag (jO c f) fun g=>as m h fun xs h=>O (.fn g) (a::xs) h k
noncomputable def rA(e:SE)(as:yd):SE:=fun m h k=>e m h fun a h=>Gx a none fun l env=>as m h fun xs h=>O (.clo l env) xs h k
noncomputable def L1(e:SE)(r:yd):yd:=fun m h k=>e m h fun x h=>r m h fun xs h=>k (x::xs) h
def locs(cs:List Nat):List V->Loc->Option Loc:=@List.rec Nat (fun Y=>List V->Loc->Option Loc) (fun vs m=>@List.casesOn V (fun Y=>Option Loc) vs (some m) fun Y Y=>none)
 (fun c Y r vs m=>@List.casesOn V (fun Y=>Option Loc) vs none fun v vs=>r vs (ae m c v)) cs
def wH(tu:Bool)(cs:List Nat)(h:Hp)(v:V)(m:Loc):Option Loc:=@Bool.rec (fun Y=>Option Loc) (locs cs [v] m) (aj (jR h v) fun xs=>locs cs xs m) tu
def d8(tu:Bool)(ts:List Nat)(cd el:SE)(n:Nat):It->Loc->Hp->List V->Nat->(List V->Nat->Hp->KX)->KX:=@Nat.rec (fun Y=>It->Loc->Hp->List V->Nat->(List V->Nat->Hp->KX)->KX) (fun t m h bx c k=>eQ t h (k bx c h) fun Y Y=>none)
 (fun Y ih t m h bx c k=>eQ t h (k bx c h) fun v t=>ag (wH tu ts h v m) fun m=>cd m h fun b h=>ag (vBool b) fun b=>ay b (el m h fun x h=>ay (Nat.blt c 60000) (ih t m h (x::bx) (Nat.succ c) k) none) (ih t m h bx c k)) n
def fL(m:Loc)(fr:List Nat):Option (List (Nat×V)):=@List.rec Nat (fun Y=>Option (List (Nat×V))) (some []) (fun c Y ih=>aj (m c) fun v=>aj ih fun r=>some ((c,v)::r)) fr
def dJ(l:List (Nat×V)):Loc:=@List.rec (Nat×V) (fun Y=>Loc) (fun Y=>none) (fun p Y ih=>@Prod.casesOn Nat V (fun Y=>Loc) p fun c v=>ae ih c v) l
def kY(mu:Bool)(fr:List Nat)(tu:Bool)(ts:List Nat)(it c e:SE):SE:=fun m h k=>it m h fun a h=>ag (fL m fr) fun l=>bR h a fun n t h₁=>d8 tu ts c e n t (dJ l) h₁ [] 0 fun rs c h'=>ay mu (dt (be h a h') (.list rs c) k) (k (.fl (bC rs)) (be h a h'))
def Ph(x:X):SE×yd:=@X.rec (fun Y=>SE×yd) (MD,lG) (fun c=>(gN c,lG)) (fun v=>(fun m h k=>k v h,lG)) (fun o Y a=>(rU o a.1,lG)) (fun o Y Y a b=>(rB o a.1 b.1,lG)) (fun s Y Y a b=>(Mx s a.1 b.1,lG)) (fun Y Y Y c a b=>(FY c.1 a.1 b.1,lG))
 (fun o Y as=>(rC O o as.2,lG)) (fun Y f g Y a as=>(rM O a.1 f g as.2,lG)) (fun Y Y a as=>(rA O a.1 as.2,lG)) (fun mu fr tu ts Y Y Y it c e=>(kY mu fr tu ts it.1 c.1 e.1,lG)) (MD,fun m h k=>k [] h) (fun Y Y a r=>(MD,L1 a.1 r.2)) x
def bS(x:X):SE:=(Ph O x).1
def oW (x:X):yd:=(Ph O x).2
def hU (t:T):ST:=@T.casesOn (fun Y=>ST) t (fun ce c m h v k=>@Bool.rec (fun Y=>KX) (k (ae m c v) h) (OV (m 0) (k (ae m c v) h) fun Y=>none) ce) (fun a f m h v k=>bS O a m h fun a h=>ag (sP h a f v) fun h=>k m h)
 (fun a i m h v k=>yc (bS O a) (bS O i) m h fun a i h=>ag (eP h a i v) fun h=>k m h) fun Y Y Y Y=>none
def B4(ts:List T):List V->Loc->Hp->KL->KX:=@List.rec T (fun Y=>List V->Loc->Hp->KL->KX) (fun xs m h k=>@List.casesOn V (fun Y=>KX) xs (k m h) fun Y Y=>none)
 (fun t Y r xs m h k=>@List.casesOn V (fun Y=>KX) xs none fun x xs=>hU O t m h x fun m h=>r xs m h k) ts
def cr(ts:List T):ST:=fun m h v k=>ag (jR h v) fun xs=>ay (Nat.beq (aq xs) (aq ts)) (B4 O ts xs m h k) none
def dw(as:ST)(bd:SS)(n:Nat):It->Loc->Hp->KL->KV->KX:=@Nat.rec (fun Y=>It->Loc->Hp->KL->KV->KX) (fun t m h kn kr=>eQ t h (kn m h) fun Y Y=>none)
 (fun Y ih t m h kn kr=>eQ t h (kn m h) fun v t=>as m h v fun m h=>bd m h (fun m h=>ih t m h kn kr) kn kr) n
def qk(t:ST)(i:SE)(b:SS):SS:=fun m h kn kb kr=>i m h fun a h=>bR h a fun n it h₁=>dw t b n it m h₁ (fun m h'=>kn m (be h a h')) fun v h'=>kr v (be h a h')
def Oq(c:Nat)(fr:List Nat)(ln:Nat)(l:Expr):SS:=fun m h kn kb kr=>@Bool.rec (fun Y=>KX) (ag (fL m fr) fun e=>kn (ae (ae m c (.clo l e)) 0 .none) (h.use ln)) none (h.cas fun Y Y Y Y u=>ji u ln)
def aF(s:S):SS:=@S.rec (fun Y=>SS) (fun m h kn kb kr=>kn m h) (fun Y Y a b m h kn kb kr=>a m h (fun m h=>b m h kn kb kr) kb kr) (fun a m h kn kb kr=>bS O a m h fun Y h=>kn m h) (fun t e m h kn kb kr=>bS O e m h fun v h=>hU O t m h v kn)
 (fun ts e m h kn kb kr=>bS O e m h fun v h=>cr O ts m h v kn) (fun cs e m h kn kb kr=>bS O e m h fun v h=>ag (jR h v) fun vs=>ag (locs cs vs m) fun m=>kn m h) Oq
 (fun c Y Y a b m h kn kb kr=>bS O c m h fun v h=>ag (vBool v) fun t=>ay t (a m h kn kb kr) (b m h kn kb kr)) (fun t i Y b=>qk (hU O t) (bS O i) b) (fun ts i Y b=>qk (cr O ts) (bS O i) b) (fun e m h kn kb kr=>bS O e m h kr) (fun m h kn kb kr=>kb m h) (fun Y Y Y Y Y=>none) s
end
noncomputable def Nz:Str:=⟨#[95,95,100,101,98,117,103,95,95]⟩
noncomputable def M9:Str:=⟨#[95,95,99,108,97,115,115,100,105,99,116,95,95]⟩
def bK(ns:cW)(x:Str):Option NameKind:=@List.rec (Str×NameKind) (fun Y=>Option NameKind) none (fun p Y ih=>@Bool.rec (fun Y=>Option NameKind) ih (some p.2) (Fast.sEq x p.1)) ns
def xz(l:List Nat):Bool:=@List.rec Nat (fun Y=>Bool) true (fun x r ih=>and (not (ji r x)) ih) l
def gu(ns:cW):Bool:=and (xz (ns.map fun p=>cS p.1)) (ns.all fun p=>and (and (i5 p.1) (not (Nat.beq (cS p.1) 0))) (and (not (Fast.sEq p.1 Nz)) (not (Fast.sEq p.1 M9))))
noncomputable def LF:List (Nat×V):= [(327513624901,.tup [.lit (61),.lit (133532167858530),.tup [.none,.none],.bool false]),(357762154822,.gd 1),(357829530954,.gd 2)]
noncomputable def Jx:List (Nat×Nat):= [(134836028213986209674964882282215007841,25),(2000278120176583535711,30),(1870858745032837524575,31),(7308901701084343391,32),(8387230137839610975,33),(31071109616664114425491450975,34),(8391737036001864799,35),(140775616293196989030558815,36),(122651098864679229386222687,37),(478958352205036629617759,38),(138296649871416883626994783,39),(134773516480725931723045021144865401951,40),(134773516480707807205616503385221065823,41),(139505594349162194509327455,42),(7954212515105295484366794878047,43),(545146068193545335958623,44),(1851692548719632280671,45),(479106435349157710490719,46),(7959393670797552735,47),(2130123084385604430943,48),(549720425009357449686111,49),(521662497445562621717599,50),(35713366077144313412435668063,51)]
noncomputable def K1:List (Nat×Nat):= [(2110239408437832675154,0),(30787916450984528,1),(121416400531267,2),(517097156169,3),(435610083668,4)]
noncomputable def Ju:List (Nat×Nat):= [(7234924,0),(435526984050,1),(7889261,2),(7630441,3),(1953720684,4),(1952672100,5),(435611006324,6),(110386908131187,7),(1919968626,8)]
noncomputable def I0:List (Nat×Nat):= [(110425311047777,0),(111559349986674,1),(7628135,2),(7368560,3),(1852403562,4)]
noncomputable def My{α:Type}(d:α)(nm:Str->α)(at':Expr->Str->Pos->α)(su:Expr->Expr->Pos->α)(e:Expr):α:=@Expr.casesOn (fun Y=>α) e (fun Y Y Y=>d) (fun Y Y Y=>d) (fun Y Y Y Y=>d) (fun Y Y Y=>d) (fun Y Y Y Y=>d) (fun Y Y Y Y=>d) (fun Y Y Y=>d) (fun Y Y Y=>d) (fun Y Y Y Y=>d) (fun Y Y Y Y=>d) (fun Y Y Y Y Y=>d) (fun Y Y Y Y=>d) (fun Y Y=>d) (fun Y Y=>d) (fun Y Y=>d) (fun Y Y Y Y=>d) (fun Y Y Y Y=>d) (fun Y Y Y Y=>d) (fun Y Y=>d) (fun Y Y Y=>d) at' su (fun Y Y=>d) (fun x Y=>nm x) (fun Y Y=>d) (fun Y Y Y=>d) (fun Y Y Y Y=>d)
noncomputable def I6{α:Type}(d:α)(tu:List Expr->α)(co:Const->α)(la:Arguments->Expr->Scope->Pos->α)(sl:Option Expr->Option Expr->Option Expr->α)(ca:Expr->List Expr->List Keyword->α)(e:Expr):α:=@Expr.casesOn (fun Y=>α) e (fun Y Y Y=>d) (fun Y Y Y=>d) (fun Y Y Y Y=>d) (fun Y Y Y=>d) la (fun Y Y Y Y=>d) (fun Y Y Y=>d) (fun Y Y Y=>d) (fun Y Y Y Y=>d) (fun Y Y Y Y=>d) (fun Y Y Y Y Y=>d) (fun Y Y Y Y=>d) (fun Y Y=>d) (fun Y Y=>d) (fun Y Y=>d) (fun Y Y Y Y=>d) (fun f es ks Y=>ca f es ks) (fun Y Y Y Y=>d) (fun Y Y=>d) (fun c Y Y=>co c) (fun Y Y Y=>d) (fun Y Y Y=>d) (fun Y Y=>d) (fun Y Y=>d) (fun Y Y=>d) (fun ts Y Y=>tu ts) (fun l u s Y=>sl l u s)
noncomputable def zA{α:Type}(d:α)(f:List Expr->α):Expr->α:=I6 d f (fun Y=>d) (fun Y Y Y Y=>d) (fun Y Y Y=>d) fun Y Y Y=>d
noncomputable def HA{α:Type}(d:α)(f:Const->α):Expr->α:=I6 d (fun Y=>d) f (fun Y Y Y Y=>d) (fun Y Y Y=>d) fun Y Y Y=>d
noncomputable def BV{α:Type}(d:α)(f:Str->α):Expr->α:=My d f (fun Y Y Y=>d) fun Y Y Y=>d
noncomputable def HH{α:Type}(d:α)(f:Arguments->Expr->Scope->Pos->α):Expr->α:=I6 d (fun Y=>d) (fun Y=>d) f (fun Y Y Y=>d) fun Y Y Y=>d
def lF{α:Type}(l:List α):Bool:=@List.rec α (fun Y=>Bool) true (fun Y Y Y=>false) l
def fJ(e:Expr):Bool:=I6 true (fun Y=>true) (fun Y=>true) (fun Y Y Y Y=>true) (fun Y Y Y=>true) (fun f es ks=>not (and (Nat.beq f.ctorIdx 23) (and (lF es) (lF ks)))) e
noncomputable def aJ(e:Expr):Bool:=not (Nat.beq e.ctorIdx 22)
noncomputable def gw(e:Expr):Bool:=Nat.beq e.ctorIdx 7
noncomputable def pB(e:Expr):Bool:=or (Nat.beq e.ctorIdx 8) (or (Nat.beq e.ctorIdx 9) (Nat.beq e.ctorIdx 10))
noncomputable def jo(ns:cW):Env:={scope:={kind:=.function,names:=ns,isGenerator:=false,isCoroutine:=false},locals:=0,globals:=0,cells:= [],qual:=⟨#[]⟩,func:=none,code:=.none,frame:=none,builtins:=0}
def Hu(a b c d:Bool)(k:Option NameKind):Bool:=@Option.rec NameKind (fun Y=>Bool) false (fun n=>@NameKind.casesOn (fun Y=>Bool) n a b c false d) k
def tY:Option NameKind->Bool:=Hu true true true false
def qW:Option NameKind->Bool:=Hu false false false true
def y0:Option NameKind->Bool:=Hu false true true false
def j6:Option NameKind->Bool:=Hu true false false false
def AJ:Option NameKind->Bool:=Hu true true false false
def AN:Option NameKind->Bool:=Hu false true false false
theorem oq{P:Option NameKind->Prop}{k:Option NameKind}(e:Hu a b c d k=true)(h1:a=true->P (some .local))(h2:b=true->P (some .cell))(h3:c=true->P (some .free))(h4:d=true->P (some .globalImplicit)):P k:=by
 cases k with
 |none=>exact nomatch e
 |some k=>cases k with|«local»=>exact h1 e|cell=>exact h2 e|free=>exact h3 e|globalExplicit=>exact nomatch e|globalImplicit=>exact h4 e
def ou(b:Bool)(x:X):X:=@Bool.rec (fun Y=>X) .bad x b
def MN(b:Bool)(x:T):T:=@Bool.rec (fun Y=>T) .bad x b
def zR(b:Bool)(x:S):S:=@Bool.rec (fun Y=>S) .bad x b
def EG{α:Type}(o:Option α)(n:X)(f:α->X):X:=@Option.rec α (fun Y=>X) n f o
def PF(x:Str):X:=EG (aL Nat.beq LF (cS x)) .bad .val
def NT (ns:cW) (x:Str):X:=@Bool.rec (fun Y=>X) (ou (and (qW (bK ns x)) (i5 x)) (PF x)) (.var (cS x)) (tY (bK ns x))
def Lk(md:Bool)(x:X):X:=@Bool.rec (fun Y=>X) x (.u .tst x) md
def frees(sc:cW):List Nat:=@List.rec (Str×NameKind) (fun Y=>List Nat) [] (fun p Y ih=>@Bool.rec (fun Y=>List Nat) ih (cS p.1::ih) (p.2 == .free)) sc
def qD(ns:cW)(sc:cW):Bool:=sc.all fun p=>or (p.2 != .free) (y0 (bK ns p.1))
def LZ(sc:cW)(e:Expr):Option Nat:=BV none (fun x=>bg (AJ (bK sc x)) (some (cS x))) e
def H9(sc:cW)(l:List Expr):Option (List Nat):=@List.rec Expr (fun Y=>Option (List Nat)) (some []) (fun e Y ih=>aj (LZ sc e) fun c=>aj ih fun r=>some (c::r)) l
section
variable(ce:Bool->cW->Expr->X)
def HW(ns:cW)(es:List Expr):X:=@List.rec Expr (fun Y=>X) .nil (fun e Y r=>.cons (ce false ns e) r) es
def nE(ns:cW)(es:List Expr):X:=ou (es.all aJ) (HW ce ns es)
def M1(md:Bool)(ns:cW)(stop:Bool)(es:List Expr):X:=@List.rec Expr (fun Y=>X) .bad (fun e r ih=>@List.casesOn Expr (fun Y=>X) r (ce md ns e) fun Y Y=>.bl stop (ce md ns e) ih) es
noncomputable def MU{α:Type}(d n:α)(b:Bool->α)(i:Int->α)(s:Str->α)(c:Const):α:=@Const.casesOn (fun Y=>α) c n b i (fun Y=>d) (fun Y Y=>d) s (fun Y=>d) d
def Oi(o:Option Expr):Option Nat:=aj o (HA none (MU none none (fun Y=>none) (fun Y=>none) fun s=>bg (i5 s) (some (cS s))))
def BG(l:List (Option Expr)):Option (List Nat):=@List.rec (Option Expr) (fun Y=>Option (List Nat)) (some []) (fun e Y ih=>aj (Oi e) fun c=>aj ih fun r=>some (c::r)) l
def HO(ns:cW)(x:Str)(as:X):X:=ou (i5 x) (EG (gJ Jx (cS x)) (EG (gJ K1 (cS x)) (EG (gJ Ju (cS x)) .bad fun f=>.c (.blt f) as) fun c=>.c (.cls c) as) fun f=>.c (.fn f) as)
def EY(ns:cW)(fn:Expr)(es:List Expr)(pos:Pos):X:=My .bad
 (fun x=>@Bool.rec (fun Y=>X) (ou (qW (bK ns x)) (HO ns x (nE ce ns es))) (.app (.var (cS x)) (nE ce ns es)) (tY (bK ns x)))
 (fun o x apos=>ou (and (i5 x) (and (fJ o) (and (apos.endLine == pos.line) (Nat.blt es.length 30)))) (.m (ce false ns o) (cS x) (gJ I0 (cS x)) (nE ce ns es)))
 (fun a i p=>.app (ce false ns (.Subscript a i p)) (nE ce ns es)) fn
def Mo(ns:cW)(a i:Expr):X:=I6 (.b .sub (ce false ns a) (ce false ns i)) (fun Y=>.b .sub (ce false ns a) (ce false ns i)) (fun Y=>.b .sub (ce false ns a) (ce false ns i)) (fun Y Y Y Y=>.b .sub (ce false ns a) (ce false ns i))
 (fun l u s=>@Option.rec Expr (fun Y=>X) (@Option.rec Expr (fun Y=>X) (EG u .bad fun j=>.b .sto (ce false ns a) (ce false ns j)) (fun j=>@Option.rec Expr (fun Y=>X) (.b .sfr (ce false ns a) (ce false ns j)) (fun Y=>.bad) u) l) (fun Y=>.bad) s)
 (fun Y Y Y=>.b .sub (ce false ns a) (ce false ns i)) i
def rq(sc:cW)(t:Expr):Option (Bool×List Nat):=zA (aj (LZ sc t) fun c=>some (false,[c])) (fun ts=>aj (H9 sc ts) fun l=>some (true,l)) t
def Bx(ns:cW)(elt:Expr)(g:Comprehension)(sc:Scope)(mu:Bool):X:=ou (and (and (decide (g.is_async=0)) (not (gw g.iter))) (and (sc.kind == .function) (and (gu sc.names) (qD ns sc.names))))
 (EG (rq sc.names g.target) .bad fun t=>.comp mu (frees sc.names) t.1 t.2 (ce false ns g.iter) (match g.ifs with
  | []=>.val (.bool true)
  | [c]=>ce true sc.names c
  |_=>.bad) (ce false sc.names elt))
def Og(ns:cW)(elt:Expr)(gs:List Comprehension)(sc:Scope)(p:Pos):X:=match gs with
 | [g]=>Bx ce ns elt g sc (and (Nat.beq p.line 535) (Nat.beq p.col 11))
 |_=>.bad
def Mf (c:Const):X:=MU .bad (.val .none) (fun b=>.val (.bool b)) (fun i=>.val (.int i)) (fun s=>ou (i5 s) (.val (.lit (cS s)))) c
def O7(md:Bool)(ns:cW)(e:Expr):X:=match e with
 |.BoolOp op es _=>M1 ce md ns (match op with|.And=>false|.Or=>true) es
 |.BinOp a op b _=>ou (not md) (.b (.bin op) (ce false ns a) (ce false ns b))
 |.UnaryOp op e _=>match op with
  |.Not=>.u .not (ce md ns e)
  |.USub=>ou (not md) (.u .neg (ce false ns e))
  |_=>.bad
 |.IfExp c a b _=>.ite (ce true ns c) (ce md ns a) (ce md ns b)
 |.Dict ks vs _=>ou (and (not md) (and (Nat.ble ks.length 15) (Nat.beq ks.length vs.length))) (EG (BG ks) .bad fun l=>.c (.dct l) (nE ce ns vs))
 |.ListComp e gs sc p=>ou (not md) (Og ce ns e gs sc p)
 |.Compare a os bs _=>match os,bs with
  | [op],[b]=>ou (not (behindInMarks op b)) (.b (.cmp op) (ce false ns a) (ce false ns b))
  |_,_=>.bad
 |.Call f es ks p=>match ks with
  | []=>Lk md (EY ce ns f es p)
  |_=>.bad
 |.Constant c _ _=>ou (not md) (Mf c)
 |.Attribute o x _=>ou (and (i5 x) (fJ o)) (Lk md (.u (.attr (cS x)) (ce false ns o)))
 |.Subscript a i _=>Lk md (Mo ce ns a i)
 |.Name x _=>Lk md (NT ns x)
 |.List es p=>ou (and (not md) (Nat.ble es.length 100)) (.c (.lst (ji [199,209,318,338,553,560] p.line)) (nE ce ns es))
 |.Tuple es _ _=>ou (and (not md) (Nat.ble es.length 100)) (.c .tup (nE ce ns es))
 |_=>.bad
end
def cE(n:Nat):Bool->cW->Expr->X:=@Nat.rec (fun Y=>Bool->cW->Expr->X) (fun Y Y Y=>.bad) (fun Y ih=>O7 ih) n
section
variable(la:Bool)(ce:Bool->cW->Expr->X)(ss:cW->List Stmt->S)
def Df(ns:cW)(t:Expr):T:=My .bad (fun x=>@Bool.rec (fun Y=>T) (MN (AN (bK ns x)) (.var true (cS x))) (.var false (cS x)) (j6 (bK ns x)))
 (fun o x Y=>MN (i5 x) (.attr (ce false ns o) (cS x))) (fun o i Y=>.sub (ce false ns o) (ce false ns i)) t
def Pm(ns:cW)(t:Expr)(e:X):S:=zA (.asg (Df ce ns t) e) (fun ts=>zR (ts.all aJ) (.tup (ts.map (Df ce ns)) e)) t
def OI(ns:cW)(t:Expr)(e:X)(b:S):S:=zA (.for1 (Df ce ns t) e b) (fun ts=>zR (ts.all aJ) (.for2 (ts.map (Df ce ns)) e b)) t
def Pn(ns:cW)(t:Expr)(xs:List Str)(e:X):S:=zA .bad (fun Y=>zR (and (xz (xs.map cS)) (xs.all fun x=>j6 (bK ns x))) (.sw (xs.map cS) e)) t
def IK(ns:cW)(t e:Expr):S:=zR (Nat.beq e.ctorIdx 8) (BV .bad (fun z=>zR (j6 (bK ns z)) (.asg (.var false (cS z)) (ce false ns e))) t)
def Hq{α:Type}(o:Option α)(n:S)(f:α->S):S:=@Option.rec α (fun Y=>S) n f o
def Js(ns:cW)(t:Expr)(a:Arguments)(b:Expr)(sc:Scope)(p:Pos):S:=BV .bad (fun x=>zR (and (j6 (bK ns x)) (and (gu sc.names) (and (qD ns sc.names) (and (and a.defaults.isEmpty a.kw_defaults.isEmpty) (not (frees sc.names).isEmpty))))) (.lam (cS x) (frees sc.names) p.line (.Lambda a b sc p))) t
def LP(ns:cW)(t e:Expr)(p:Pos):S:=HH (Hq (pureOf (swapsWithSole [t] e p.line (jo ns))) .bad fun b=>@Bool.rec (fun Y=>S) (Hq (pureOf (swappedStores [t] e (jo ns))) .bad fun o=>Hq o (Pm ce ns t (ce false ns e)) fun xs=>Pn ns t xs (ce false ns e)) (IK ce ns t e) b) (fun a b sc q=>zR la (Js ns t a b sc q)) e
def Ox(ns:cW)(s:Stmt):S:=match s with
 |.Expr e _=>zR (not (pB e)) (.ex (ce false ns e))
 |.Assign ts e p=>match ts with
  | [t]=>zR (aJ t) (LP la ce ns t e p)
  |_=>.bad
 |.If c a b _=>.ite (ce true ns c) (ss ns a) (ss ns b)
 |.For t i b els _=>match els with
  | []=>zR (and (not (gw i)) (aJ t)) (OI ce ns t (ce false ns i) (ss ns b))
  |_=>.bad
 |.Return o _=>match o with
  |none=>.ret (.val .none)
  |some e=>.ret (ce false ns e)
 |.Break _=>.brk
 |_=>.bad
def Pe (ns:cW) (l:List Stmt):S:=@List.rec Stmt (fun Y=>S) .skip (fun s Y r=>.seq (Ox la ce ss ns s) r) l
end
def NE(la:Bool)(n:Nat):cW->List Stmt->S:=@Nat.rec (fun Y=>cW->List Stmt->S) (fun Y Y=>.bad) (fun Y ih=>Pe la (cE 25) ih) n
def cls(i j:Nat):Stmt:=I5 (DL (gB i)) j
def CM:List Stmt:= [cls 4 0,cls 4 3,cls 4 4,cls 4 5,cls 4 6,cls 4 7,cls 4 8,cls 4 9,cls 4 10,cls 4 11,cls 4 12,cls 4 13,cls 4 14,cls 4 15,cls 4 16,cls 4 17,cls 4 18,
 cls 10 0,cls 10 1,cls 10 3,cls 10 4,cls 10 5,cls 10 6,cls 10 8,cls 10 10,gB 14,cls 16 0,cls 17 0,cls 18 0,cls 18 2,
 gB 20,gB 21,gB 22,gB 23,gB 24,gB 25,gB 26,gB 27,gB 28,gB 29,gB 30,gB 31,gB 32,gB 33,gB 34,gB 35,gB 36,gB 37,gB 38,gB 39,gB 40,gB 41,gB 42,gB 13]
noncomputable def PL(e:Expr):Option V:=HA none (MU none (some .none) (fun b=>some (.bool b)) (fun i=>some (.int i)) fun Y=>none) e
def M6(es:List Expr):Option (List V):=@List.rec Expr (fun Y=>Option (List V)) (some []) (fun e Y ih=>aj (PL e) fun v=>aj ih fun r=>some (v::r)) es
def iQ(a:Arguments):List Str:=dq (fun p=>p.arg) a.args
def lY(n:Nat)(ns:List Str)(ds:List V):List (Nat×Option V):=@List.rec Str (fun Y=>Nat->List V->List (Nat×Option V)) (fun Y Y=> []) (fun x Y ih n ds=>@Nat.casesOn (fun Y=>List (Nat×Option V)) n (@List.casesOn V (fun Y=>List (Nat×Option V)) ds ((cS x,none)::ih 0 []) fun d r=>(cS x,some d)::ih 0 r) fun n=>(cS x,none)::ih n ds) ns n ds
def OG(a:Arguments):Option (List (Nat×Option V)):=aj (M6 a.defaults) fun ds=>bg (xz (dq cS (iQ a))) (some (lY (Nat.sub (aq a.args) (aq ds)) (iQ a) ds))
def nN(ps:List (Nat×Option V)):Loc->List V->(Loc->KX)->KX:=@List.rec (Nat×Option V) (fun Y=>Loc->List V->(Loc->KX)->KX) (fun m xs k=>@List.rec V (fun Y=>KX) (k m) (fun Y Y Y=>none) xs)
 (fun p Y ih m xs k=>@Prod.rec Nat (Option V) (fun Y=>KX) (fun c o=>@List.rec V (fun Y=>KX) (@Option.rec V (fun Y=>KX) none (fun d=>ih (ae m c d) [] k) o) (fun x xs Y=>ih (ae m c x) xs k) xs) p) ps
def gG(b:Nat)(h:Hp)(k:Hp->KX):KX:=h.cas fun Y Y Y n Y=>ay (Nat.ble n b) (k (h.cut b)) none
def IG(h:Hp)(v:V)(k:V->Hp->KX):KX:=hL h v none fun i rs Y=>k (.fl (bC rs)) (h.set i .gone)
def nW(xs:List V):Hp->(List V->Hp->KX)->KX:=@List.rec V (fun Y=>Hp->(List V->Hp->KX)->KX) (fun h k=>k [] h) (fun x Y ih h k=>IG h x fun v h=>ih h fun vs h=>k (v::vs) h) xs
def um(h:Hp)(v:V)(k:V->Hp->KX):KX:=hL h v none fun i rs Y=>nW (bC rs) (h.set i .gone) fun vs h=>k (.fl vs) h
def HF(w:V)(v:V):Option (V×V×V×V×V):=aj (iJ v) fun xs=>@List.casesOn V (fun Y=>Option (V×V×V×V×V)) xs none fun a r=>@List.casesOn V (fun Y=>Option (V×V×V×V×V)) r none fun b r=>@List.casesOn V (fun Y=>Option (V×V×V×V×V)) r none fun c r=>@List.casesOn V (fun Y=>Option (V×V×V×V×V)) r none fun d r=>@List.casesOn V (fun Y=>Option (V×V×V×V×V)) r (some (w,a,b,c,d)) fun Y Y=>none
def NC(v:V):Option (V×V×V×V×V):=aj (iJ v) fun xs=>@List.casesOn V (fun Y=>Option (V×V×V×V×V)) xs none fun w r=>@List.casesOn V (fun Y=>Option (V×V×V×V×V)) r none fun x r=>@List.casesOn V (fun Y=>Option (V×V×V×V×V)) r (HF w x) fun Y Y=>none
def lA(up:Bool)(l:List V):Option (List (V×V×V×V×V)):=@List.rec V (fun Y=>Option (List (V×V×V×V×V))) (some []) (fun v Y ih=>aj (@Bool.rec (fun Y=>Option (V×V×V×V×V)) (HF .none v) (NC v) up) fun c=>aj ih fun r=>some (c::r)) l
def gq(up:Bool)(l:Nat)(xs:List V)(h:Hp)(k:Hp->KX):KX:=@List.casesOn V (fun Y=>KX) xs none fun Y r=>@List.casesOn V (fun Y=>KX) r none fun o Y=>hL h o (gi h o none fun Y Y Y Y=>k h) fun i rs Y=>ag (lA up (bC rs)) fun cs=>k (h.set i (.rows up l cs))
def yU(xs:List V)(h:Hp)(k:List V->Hp->KX):KX:=@List.casesOn V (fun Y=>KX) xs none fun s r=>@List.casesOn V (fun Y=>KX) r none fun o r=>um h o fun v h=>k (s::v::r) h
structure FR where
 ps:List (Nat×Option V)
 b:S
def tn(f:Nat):Option FR:=aj (lN CM f) fun st=>bg (gu (EA st).names) (aj (OG (xj st)) fun ps=>some ⟨ps,NE (Nat.beq f 39) 12 (EA st).names (AW st)⟩)
def yW(xs:List V)(h:Hp)(k:KV):KX:=@List.casesOn V (fun Y=>KX) xs none fun x r=>@List.casesOn V (fun Y=>KX) r (ag (di x) fun n=>ay (Nat.beq n 23157120498421321) (k (.lit 32199642103180905) h.up) none) fun Y Y=>none
def GM(O:CK)(xs:List V)(h:Hp)(k:KV):KX:=@List.casesOn V (fun Y=>KX) xs none fun x r=>@List.casesOn V (fun Y=>KX) r (ag (di x) fun n=>ay (Nat.beq n 23157120498421321) (O (.fn 53) [x] h fun v h=>ag (di v) fun c=>ay (Nat.beq c 32199642103180905) (k (.msg 10) h) none) none) fun Y Y=>none
def bG(O:CK)(r:FR)(xs:List V)(h:Hp)(k:KV):KX:=@FR.rec (fun Y=>KX) (fun ps b=>nN ps (fun Y=>none) xs fun m=>aF O b m h (fun Y h=>k .none h) (fun Y Y=>none) k) r
def I9(f:Nat):Nat:=@Bool.rec (fun Y=>Nat) (@Bool.rec (fun Y=>Nat) (@Bool.rec (fun Y=>Nat) (@Bool.rec (fun Y=>Nat) (@Bool.rec (fun Y=>Nat) (@Bool.rec (fun Y=>Nat) 0 5 (Nat.beq f 53)) 5 (Nat.beq f 25)) 4 (Nat.beq f 47)) 3 (Nat.beq f 49)) 2 (Nat.beq f 41)) 1 (Nat.beq f 40)
noncomputable def zr{α:Type}(z a b c d e:α)(n:Nat):α:=@Nat.rec (fun Y=>α) z (fun n Y=>@Nat.rec (fun Y=>α) a (fun n Y=>@Nat.rec (fun Y=>α) b (fun n Y=>@Nat.rec (fun Y=>α) c (fun n Y=>@Nat.rec (fun Y=>α) d (fun Y Y=>e) n) n) n) n) n
def Mh(O:CK)(f:Nat)(xs:List V)(h:Hp)(k:KV):KX:=ag (tn f) fun r=>zr (bG O r xs h k) (gq false 2 xs h fun h=>gG 1024 h fun h=>bG O r xs h k) (gq true 3 xs h fun h=>gG 1024 h fun h=>bG O r xs h k) (gG 4096 h fun h=>bG O r xs h k) (yU xs h fun xs h=>bG O r xs h k) (@Bool.rec (fun Y=>KX) (GM O xs h k) (yW xs h k) (Nat.beq f 53)) (I9 f)
noncomputable def MW:Str:=⟨#[116,97,114,103,101,116]⟩
noncomputable def NW:Str:=⟨#[108,97,98,101,108]⟩
noncomputable def Ny:Str:=⟨#[102,105,114,115,116]⟩
def MQ(l:List Arg):List Str:=@List.rec Arg (fun Y=>List Str) [MW] (fun Y r Y=>@List.rec Arg (fun Y=>List Str) [MW] (fun Y Y Y=> [NW,Ny]) r) l
def H3(zs:List Str):List Arg->Bool:=@List.rec Str (fun Y=>List Arg->Bool) lF (fun z Y ih l=>@List.rec Arg (fun Y=>Bool) false (fun a r Y=>and (Fast.sEq a.arg z) (ih r)) l) zs
def zP{α:Type}(o:Option α):Bool:=@Option.rec α (fun Y=>Bool) true (fun Y=>false) o
def CW(a:Arguments)(sc:Scope):Bool:=and (and (sc.kind == .function) (and (not sc.isCoroutine) (not sc.isGenerator))) (and (sc.names.all fun p=>p.2 != .cell)
 (and (and (H3 (MQ a.args) a.args) ((MQ a.args).all fun z=>j6 (bK sc.names z))) (and (and (lF a.posonlyargs) (zP a.vararg)) (and (and (lF a.kwonlyargs) (lF a.kw_defaults)) (and (zP a.kwarg) (lF a.defaults))))))
def runC(O:CK)(l:Expr)(env:List (Nat×V))(xs:List V)(h:Hp)(k:KV):KX:=HH (fun Y=>none) (fun a b sc Y k=>OC (CW a sc) (nN (dq (fun p=>(cS p.arg,none)) a.args) (dJ env) xs fun m=>bS O (cE 25 false sc.names b) m h k)) l k
def aS(n:Nat):CK:=@Nat.rec (fun Y=>CK) (fun Y Y Y Y=>none) (fun Y O fn xs h k=>@Fn.rec (fun Y=>KX) (fun f=>Mh O f xs h k) (fun l env=>runC O l env xs h k) fn) n
theorem vX{P:α->Prop}{d:α}{tu co la sl ca}(e:Expr)(h:Nat.beq e.ctorIdx 26=false->P d)(h1:∀ts k p,e=.Tuple ts k p->P (tu ts))(h2:∀c k p,e=.Constant c k p->P (co c))(h3:∀a b s p,e=.Lambda a b s p->P (la a b s p))(h4:∀l u s p,e=.Slice l u s p->P (sl l u s))(h5:∀f es ks p,e=.Call f es ks p->P (ca f es ks)):P (I6 d tu co la sl ca e):=by cases e<;>first|exact h rfl|exact h1 _ _ _ rfl|exact h2 _ _ _ rfl|exact h3 _ _ _ _ rfl|exact h4 _ _ _ _ rfl|exact h5 _ _ _ _ rfl
theorem Bj{P:α->Prop}{d:α}{nm at' su}(e:Expr)(h:P d)(h1:∀x p,e=.Name x p->P (nm x))(h2:∀o x p,e=.Attribute o x p->P (at' o x p))(h3:∀a i p,e=.Subscript a i p->P (su a i p)):P (My d nm at' su e):=by cases e<;>first|exact h|exact h1 _ _ rfl|exact h2 _ _ _ rfl|exact h3 _ _ _ rfl
theorem p_{P:α->Prop}{d:α}{f}(e:Expr)(h:P d)(h1:∀ts k p,e=.Tuple ts k p->P (f ts)):P (zA d f e):=vX e (fun Y=>h) h1 (fun Y Y Y Y=>h) (fun Y Y Y Y Y=>h) (fun Y Y Y Y Y=>h) fun Y Y Y Y Y=>h
theorem GG{P:α->Prop}{d:α}{f}(e:Expr)(h:P d)(h1:∀c k p,e=.Constant c k p->P (f c)):P (HA d f e):=vX e (fun Y=>h) (fun Y Y Y Y=>h) h1 (fun Y Y Y Y Y=>h) (fun Y Y Y Y Y=>h) fun Y Y Y Y Y=>h
theorem AB{P:α->Prop}{d:α}{f}(e:Expr)(h:P d)(h1:∀a b s p,e=.Lambda a b s p->P (f a b s p)):P (HH d f e):=vX e (fun Y=>h) (fun Y Y Y Y=>h) (fun Y Y Y Y=>h) h1 (fun Y Y Y Y Y=>h) fun Y Y Y Y Y=>h
theorem uO{P:α->Prop}{d:α}{f}(e:Expr)(h:P d)(h1:∀x p,e=.Name x p->P (f x)):P (BV d f e):=Bj e h h1 (fun Y Y Y Y=>h) fun Y Y Y Y=>h
theorem Ff{P:α->Prop}{d n:α}{b i s}(c:Const)(h:P d)(h1:c=.none->P n)(h2:∀x,c=.bool x->P (b x))(h3:∀x,c=.int x->P (i x))(h4:∀x,c=.str x->P (s x)):P (MU d n b i s c):=by cases c<;>first|exact h|exact h1 rfl|exact h2 _ rfl|exact h3 _ rfl|exact h4 _ rfl
end
set_option genCtorIdx true in
inductive cq where
 |abort|rollback|fail|ignore|replace
structure fZ where
 keyed:Bool
 pair:Bool
 more:Bool
 dflt:Option Int
noncomputable def ov:Option Int->V
 |none=>.none
 |some i=>.int i
structure Ix where
 cur:Nat
 cols:List Nat
 uni:Bool
noncomputable def aG(c:fZ):List Ix:=⟨1,[1],true⟩::((if c.pair then [⟨2,[2,3],true⟩] else [])++if c.more then [⟨if c.pair then 3 else 2,[3],false⟩] else [])
inductive Op where
 |value (r:Nat) (v:V)|copy (a b:Nat)|aff (r n:Nat)|newRowid (r:Nat)|isNull (r t:Nat)|mustBeInt (r:Nat)|goto (t:Nat)|notNull (r t:Nat)
 |cmpGe (r t z:Nat)|cmpEq (r t o:Nat)|notExists (t r:Nat)|noConfl (cur t first n:Nat)|idxRowid (cur r:Nat)|seek (t r:Nat)
 |column (p r:Nat)|rowid (r:Nat)|idxDelete (cur first n:Nat)|delete|makeRec (first n r:Nat)|idxInsert (cur r:Nat)|insert (r k:Nat) (last:Bool)
 |addInt (r:Nat)|changes (r:Nat)|fail (a k:Nat)|halt
noncomputable def vi(n:Nat):V:=.int (.ofNat n)
def kc(k:Nat):Nat:=@Bool.rec (fun Y=>Nat) (@Bool.rec (fun Y=>Nat) (@Bool.rec (fun Y=>Nat) 111555088313973 146758959329783095396758128 (Nat.beq k 43)) 461229090915 (Nat.beq k 38)) 7812748569432321902 (Nat.beq k 33)
def b_:Op->List V
 |.value r v=> [.lit 435761733974,vi 0,vi r,vi 0,v]
 |.copy a b=> [.lit 2037411651,vi a,vi b,vi 1,.none]
 |.aff r n=> [.lit 8751735898823353921,vi r,vi n,vi 0,.none]
 |.newRowid r=> [.lit 7235445596356044110,vi 0,vi r,vi 0,.none]
 |.isNull r t=> [.lit 119213080343369,vi r,vi t,vi 0,.none]
 |.mustBeInt r=> [.lit 2147769306903875908941,vi r,vi 0,vi 0,.none]
 |.goto t=> [.lit 1869901639,vi 0,vi t,vi 0,.none]
 |.notNull r t=> [.lit 30518548567977806,vi r,vi t,vi 0,.none]
 |.cmpGe r t z=> [.lit 135916593373344577190981443,vi r,vi t,vi z,.tup [.lit 15678,.lit 133532167858530,.tup [.none,.none],.bool true]]
 |.cmpEq r t o=> [.lit 135916593373344577190981443,vi r,vi t,vi o,.tup [.lit 61,.lit 133532167858530,.tup [.none,.none],.bool false]]
 |.notExists t r=> [.lit 2129766734972602052430,vi 0,vi t,vi r,.none]
 |.noConfl cur t first n=> [.lit 549628336235472056708942,vi cur,vi t,vi first,vi n]
 |.idxRowid cur r=> [.lit 7235445596356109385,vi cur,vi r,vi 0,.none]
 |.seek t r=> [.lit 1852274072666945971539,vi 0,vi t,vi r,.none]
 |.column p r=> [.lit 121416400531267,vi 0,vi p,vi r,.none]
 |.rowid r=> [.lit 431266164562,vi 0,vi r,vi 0,.none]
 |.idxDelete cur first n=> [.lit 1871508380507908367433,vi cur,vi first,vi n,.none]
 |.delete=> [.lit 111550592214340,vi 0,vi 0,vi 0,.none]
 |.makeRec first n r=> [.lit 474347603481732877869389,vi first,vi n,vi r,.none]
 |.idxInsert cur r=> [.lit 2148065434160795771977,vi cur,vi r,vi 0,.none]
 |.insert r k l=> [.lit 128034677157449,vi 0,vi r,vi k,if l then .lit 1953718636 else .none]
 |.addInt r=> [.lit 128017026540609,vi r,vi 1,vi 0,.none]
 |.changes r=> [.lit 32481117229639747,vi r,vi 0,vi 0,.none]
 |.fail a k=> [.lit 1818845510,vi a,vi 0,vi 0,.tup [.lit (kc k)]]
 |.halt=> [.lit 1953259848,vi 0,vi 0,vi 0,.none]
section
variable(c:fZ)(w:cq)
noncomputable def bo(kind k:Nat):List Op:=match w with
 |.ignore=> [.goto k]
 |.fail=> [.changes 2,.fail 2 kind]
 |.rollback=> [.fail 1 kind]
 |_=> [.fail 0 kind]
noncomputable def aY:cq->Bool
 |.replace=>true
 |_=>false
noncomputable def c7(s k:Nat):List Op:=match c.dflt,aY w with
 |some d,true=> [.notNull 6 (s+5),.value 6 (.int d),.aff 6 1,.notNull 6 (s+5),.fail 0 33]
 |_,_=>.notNull 6 (s+1+(bo w 33 k).length)::bo w 33 k
noncomputable def eE(s k:Nat):List Op:=.cmpGe 7 (s+1+(bo w 38 k).length) 1::bo w 38 k
noncomputable def oO:List Nat->Nat->List Op
 | [],_=> []
 |p::r,R=>.column p R::oO r (R+1)
noncomputable def iF:List Ix->Nat->List Op
 | [],_=> [.delete]
 |x::r,R=>oO x.cols R++(.rowid (R+x.cols.length)::.idxDelete x.cur R (x.cols.length+1)::iF r (R+x.cols.length+1))
noncomputable def eZ:List Ix->Nat
 | []=>0
 |x::r=>x.cols.length+1+eZ r
noncomputable def dX(old:Option Nat)(r t:Nat):List Op:=match old with
 |some o=> [.cmpEq r t o]
 |none=> []
noncomputable def eG(R k:Nat):List Op:=if aY w then iF (aG c) R else bo w 43 k
noncomputable def fj(old:Option Nat)(R s k:Nat):List Op:=
 let f:=s+(dX old 0 0).length+1+(eG c w R k).length
 dX old 3 f++(.notExists f 3::eG c w R k)
noncomputable def ur(R:Nat):Nat:=if aY w then R+eZ (aG c) else R
noncomputable def cU:List Nat->Nat->List Op
 | [],f=> [.copy 3 f]
 |p::r,f=>.copy (4+p) f::cU r (f+1)
structure St where
 R:Nat
 keys:List (Option Nat)
noncomputable def ge(x:Ix)(key:Option Nat)(R:Nat):Nat×Nat:=match key with
 |some f=>(f,R)
 |none=>(R,R+x.cols.length+1)
noncomputable def iC(R k f o:Nat):List Op:=if aY w then .seek f o::iF (aG c) R else bo w 45 k
noncomputable def dC(old:Option Nat)(k:Nat):List (Ix×Option Nat)->Nat->Nat->List Op×Nat×List (Option Nat)
 | [],R,s=>([],R,[])
 |(x,key)::r,R,s=>match x.uni with
  |false=>let q:=dC old k r R s;(q.1,q.2.1,key::q.2.2)
  |true=>
   let p:=ge x key R;let m:=(cU x.cols p.1).length+2+(dX old 0 0).length+(iC c w (p.2+1) k 0 0).length;let code:=cU x.cols p.1++(.noConfl x.cur (s+m) p.1 x.cols.length::.idxRowid x.cur p.2::(dX old p.2 (s+m)++iC c w (p.2+1) k (s+m) p.2));let q:=dC old k r (if aY w then p.2+1+eZ (aG c) else p.2+1) (s+m)
   (code++q.1,q.2.1,some p.1::q.2.2)
noncomputable def gK(rec:Nat):List (Ix×Option Nat)->Nat->List Op×Nat×List (Option Nat)
 | [],R=>([],R,[])
 |(x,key)::r,R=>
  let p:=ge x key R;let q:=gK rec r p.2
  (cU x.cols p.1++(.makeRec p.1 (x.cols.length+1) rec::.idxInsert x.cur rec::q.1),q.2.1,some p.1::q.2.2)
noncomputable def ly(last:Bool)(st:St):List Op×St:=
 let q:=gK st.R ((aG c).zip st.keys) (st.R+1)
 (q.1++ [.makeRec 4 4 st.R,.insert st.R 3 last,.addInt 2],⟨q.2.1,q.2.2⟩)
noncomputable def c8(old:Option Nat)(isNew:Bool)(st:St)(s k:Nat):List Op×St:=
 let n:=c7 c w s k;let t:=eE w (s+n.length) k;let s2:=s+n.length+t.length;let r:=if isNew then [] else fj c w old st.R s2 k
 let R2:=if isNew then st.R else ur c w st.R
 let q:=dC c w old k ((aG c).zip st.keys) R2 (s2+r.length)
 (n++(t++(r++q.1)),⟨q.2.1,q.2.2⟩)
noncomputable def lV(r:V×V×V×V)(g:Nat):List Op:= [.value g r.1,.value (g+1) r.2.1,.value (g+2) r.2.2.1,.value (g+3) r.2.2.2]
noncomputable def vE(g s:Nat):List Op:= [.copy g 4,.copy (g+1) 5,.copy (g+2) 6,.copy (g+3) 7,.aff 4 4]++if c.keyed then [.isNull 4 (s+10),.copy 4 3,.aff 3 1,.mustBeInt 3,.goto (s+11),.newRowid 3,.copy 3 4] else [.newRowid 3]
noncomputable def jn(st:St)(r:V×V×V×V)(s k:Nat):List Op×St:=
 let a:=lV r st.R++vE c st.R (s+4);let q:=c8 c w none (!c.keyed) ⟨st.R+4,st.keys⟩ (s+a.length) k;let p:=ly c true q.2
 (a++(q.1++p.1),p.2)
noncomputable def jq(st:St)(was:V)(r:V×V×V×V)(s k:Nat):List Op×St:=
 let o:=st.R;let a:= [.value o was,.seek k o]++lV r 4++if c.keyed then [.copy 4 3,.aff 3 1,.mustBeInt 3,.copy 3 4] else [.copy o 3]
 let q:=c8 c w (some o) false ⟨st.R+1,st.keys⟩ (s+a.length) k;let m:= [.seek k o]++iF (aG c) q.2.R;let p:=ly c false ⟨q.2.R+eZ (aG c),q.2.keys⟩
 (a++(q.1++(m++p.1)),p.2)
noncomputable def nb:List (V×V×V×V)->St->Nat->List Op
 | [],st,s=> [.changes 2,.halt]
 |r::rs,st,s=>let k:=s+(jn c w st r 0 0).1.length;let q:=jn c w st r s k;q.1++nb rs q.2 k
noncomputable def mN:List (V×V×V×V×V)->St->Nat->List Op
 | [],st,s=> [.changes 2,.halt]
 |(was,r)::rs,st,s=>let k:=s+(jq c w st was r 0 0).1.length;let q:=jq c w st was r s k;q.1++mN rs q.2 k
noncomputable def Ay:St:=⟨8,(aG c).map fun Y=>none⟩
noncomputable def Nl:List Op:= [.value 1 (vi 0),.value 2 (vi 0)]
noncomputable def xX(rs:List (V×V×V×V)):List Op:=Nl++nb c w rs (Ay c) 2
noncomputable def uK(rs:List (V×V×V×V×V)):List Op:=Nl++mN c w rs (Ay c) 2
end
structure PM where
 rg:Nat->Option V
 rows:List (Int×V)
 ks:Nat->List (List (Option Int))
 at':Nat->Option V
 ch:Int
noncomputable def PM.put(p:PM)(r:Nat)(v:V):PM:={p with rg:=fun j=>if j=r then some v else p.rg j}
noncomputable def PM.reg(p:PM)(r:Nat):V:=(p.rg r).getD .none
noncomputable def PM.atp(p:PM)(c:Nat)(v:V):PM:={p with at':=fun j=>if j=c then some v else p.at' j}
noncomputable def PM.kp(p:PM)(c:Nat)(l:List (List (Option Int))):PM:={p with ks:=fun j=>if j=c then l else p.ks j}
noncomputable def aV(k:List (Option Int)):V:=.tup (k.map ov)
inductive fY where
 |next|jump (t:Nat)
noncomputable def lD:V->Option (Option Int)
 |.none=>some none
 |.int i=>some (some i)
 |_=>none
noncomputable def hY:List V->Option (List (Option Int))
 | []=>some []
 |v::r=>match lD v,hY r with
  |some a,some b=>some (a::b)
  |_,_=>none
noncomputable def PM.vals(p:PM)(f n:Nat):List V:=(List.range n).map fun i=>p.reg (f+i)
noncomputable def cz(rows:List (Int×V))(k:Int):Option V:=rows.lookup k
noncomputable def lJ:List (Int×V)->Int->V->List (Int×V)
 | [],k,v=> [(k,v)]
 |(j,w)::r,k,v=>if j=k then(j,v)::r else(j,w)::lJ r k v
noncomputable def ju:List (Int×V)->Int->List (Int×V)
 | [],k=> []
 |(j,w)::r,k=>if j=k then r else(j,w)::ju r k
noncomputable def nR(b:Bool)(t:Nat):fY:=if b then .jump t else .next
noncomputable def QB(o:Option Int):Bool:=o.isNone
noncomputable def i9(nk:Nat):Op->PM->Option (fY×PM)
 |.value r v,p=>some (.next,p.put r v)
 |.copy a b,p=>some (.next,p.put b (p.reg a))
 |.aff _ _,p=>some (.next,p)
 |.newRowid r,p=>some (.next,p.put r (.int ((p.rows.map (·.1)).foldl max 0+1)))
 |.isNull r t,p=>(lD (p.reg r)).map fun o=>(nR o.isNone t,p)
 |.notNull r t,p=>(lD (p.reg r)).map fun o=>(nR o.isSome t,p)
 |.mustBeInt _,p=>some (.next,p)
 |.goto t,p=>some (.jump t,p)
 |.cmpGe r t z,p=>match lD (p.reg r),lD (p.reg z) with
  |some (some x),some (some y)=>some (nR (decide (y<=x)) t,p)
  |some _,some _=>some (.jump t,p)
  |_,_=>none
 |.cmpEq r t z,p=>match lD (p.reg r),lD (p.reg z) with
  |some (some x),some (some y)=>some (nR (x == y) t,p)
  |some _,some _=>some (.next,p)
  |_,_=>none
 |.notExists t r,p=>match p.reg r with
  |.int k=>some (nR (cz p.rows k).isNone t,p.atp 0 (.int k))
  |_=>none
 |.seek t r,p=>match p.reg r with
  |.int k=>some (nR (cz p.rows k).isNone t,p.atp 0 (.int k))
  |_=>none
 |.noConfl c t f n,p=>if 1<=c/\c<=nk/\n<=1000/\f<=1000000/\∀k∈p.ks c,n < k.length/\k.length<=1000 then(hY (p.vals f n)).map fun w=>
   if none∈w then(.jump t,p) else match(p.ks c).filter (fun k=>k.take n == w) with
    | []=>(.jump t,p)
    |k::_=>(.next,p.atp c (.tup (k.map ov))) else none
 |.idxRowid c r,p=>match p.at' c with
  |some (.tup ys)=>if ys.length<=1000 then ys.getLast?.map fun v=>(.next,p.put r v) else none
  |_=>none
 |.column i r,p=>match p.at' 0 with
  |some (.int k)=>match cz p.rows k with
   |some (.tup ys)=>if ys.length<=1000 then ys[i]?.map fun v=>(.next,p.put r v) else none
   |_=>none
  |_=>none
 |.rowid r,p=>(p.at' 0).map fun v=>(.next,p.put r v)
 |.makeRec f n r,p=>if n<=1000/\f<=1000000 then some (.next,p.put r (.tup (p.vals f n))) else none
 |.addInt r,p=>match p.rg r with
  |some (.int i)=>some (.next,p.put r (.int (i+1)))
  |_=>none
 |.idxInsert c r,p=>if 1<=c/\c<=nk then match p.rg r with
  |some (.tup ys)=>(hY ys).map fun xs=>(.next,p.kp c (p.ks c++ [xs]))
  |_=>none else none
 |.insert r k _,p=>match p.rg r,p.rg k with
  |some (.tup ys),some (.int i)=>some (.next,{p with rows:=lJ p.rows i (.tup ys)})
  |_,_=>none
 |.delete,p=>match p.at' 0 with
  |some (.int k)=>(cz p.rows k).map fun Y=>(.next,{p with rows:=ju p.rows k})
  |_=>none
 |.idxDelete c f n,p=>if 1<=c/\c<=nk/\n<=1000/\f<=1000000 then(hY (p.vals f n)).bind fun w=>
   if w∈p.ks c then some (.next,p.kp c ((p.ks c).erase w)) else none else none
 |.changes r,p=>match p.rg r with
  |some (.int i)=>some (.next,{p with ch:=p.ch+i})
  |_=>none
 |.fail _ _,_=>none
 |.halt,_=>none
inductive Ex(nk:Nat)(P:List Op):Nat->PM->V×V->PM->Prop
 |halt {s p} (h:P[s]? =some .halt):Ex nk P s p (.none,.none) p
 |fail {s p a k} (h:P[s]? =some (.fail a k)):Ex nk P s p (vi a,.lit k) p
 |next {s p p' r q op} (h:P[s]? =some op) (e:i9 nk op p=some (.next,p')) (x:Ex nk P (s+1) p' r q):Ex nk P s p r q
 |jump {s p p' r q op t} (h:P[s]? =some op) (e:i9 nk op p=some (.jump t,p')) (l:s < t) (x:Ex nk P t p' r q):Ex nk P s p r q
section
abbrev bz:=Option Int×Option Int×Option Int×Option Int
noncomputable def bz.col(r:bz):Nat->Option Int
 |0=>r.1
 |1=>r.2.1
 |2=>r.2.2.1
 |_=>r.2.2.2
noncomputable def aH(r:bz):V:=.tup [ov r.1,ov r.2.1,ov r.2.2.1,ov r.2.2.2]
abbrev Tb:=List (Int×bz)
noncomputable def OZ(T:Tb)(k:Int):Option bz:=T.lookup k
noncomputable def eB:Tb->Int->Tb
 | [],k=> []
 |(j,w)::r,k=>if j=k then r else(j,w)::eB r k
noncomputable def NR:Tb->Int->bz->Tb
 | [],k,v=> [(k,v)]
 |(j,w)::r,k,v=>if j=k then(j,v)::r else(j,w)::NR r k v
noncomputable def bc(x:Ix)(k:Int)(r:bz):List (Option Int):=x.cols.map (bz.col r)++ [some k]
def aK(P:List Op)(s:Nat)(Q:List Op):Prop:=∃R,P.drop s=Q++R
theorem aK.hd(h:aK P s (op::Q)):P[s]? =some op:=by refine xE h fun R e=>?_;obtain this:=congrArg (·[0]?) e;simpa using this
theorem aK.tl(h:aK P s (op::Q)):aK P (s+1) Q:=by refine xE h fun R e=>⟨R,by(refine aQ List.drop_drop<|J e ?_);rfl⟩
theorem aK.left(h:aK P s (Q1++Q2)):aK P s Q1:=by exact xE h fun R e=>⟨Q2++R,by(exact J e<|J (Q5 _ _ _) rfl)⟩
theorem aK.right(h:aK P s (Q1++Q2)):aK P (s+Q1.length) Q2:=by exact xE h fun R e=>⟨R,by(exact aQ List.drop_drop<|J e<|J (Q5 _ _ _)<|J List.drop_left rfl)⟩
variable{nk:Nat}{q p p':PM}
theorem ax(h:aK P s (op::Q))(e:i9 nk op p=some (.next,p'))(x:Ex nk P (s+1) p' r q):Ex nk P s p r q:=.next h.hd e x
theorem dK(h:aK P s (op::Q))(e:i9 nk op p=some (.jump t,p'))(l:s < t)(x:Ex nk P t p' r q):Ex nk P s p r q:=.jump h.hd e l x
def dM(A:Nat->Prop)(p p':PM):Prop:=∀j,A j->p'.rg j=p.rg j
structure iG(p p':PM):Prop where
 rows:p'.rows=p.rows
 ks:p'.ks=p.ks
 at':p'.at'=p.at'
 ch:p'.ch=p.ch
theorem iG.refl:iG p p:=⟨rfl,rfl,rfl,rfl⟩
theorem iG.put(j:Nat)(v:V):iG p (p.put j v):=⟨rfl,rfl,rfl,rfl⟩
theorem iG.trans(a:iG p p')(b:iG p' p''):iG p p'':=⟨b.rows.trans a.rows,b.ks.trans a.ks,b.at'.trans a.at',b.ch.trans a.ch⟩
theorem dM.put(v:V)(h:¬A j):dM A p (p.put j v):=fun i hi=>QN fun e:i=j=>h (e▸hi)
theorem dM.trans(a:dM A p p')(b:dM A p' p''):dM A p p'':=fun j hj=>(b j hj).trans (a j hj)
theorem dM.refl:dM A p p:=fun Y Y=>rfl
theorem jb(p:PM)(j:Nat)(v:V)(i:Nat):(p.put j v).reg i=if i=j then v else p.reg i:=by
 delta PM.reg PM.put;by_cases e:i=j
 ·refine J (QM e)<|(?_ :(if i=j then some v else p.rg i).getD .none=v);refine J (QM e) ?_;rfl
 ·refine J (QN e)<|(?_ :(if i=j then some v else p.rg i).getD .none=_);exact J (QN e) rfl
theorem dM.reg(h:dM A p p')(a:A j):p'.reg j=p.reg j:=by delta PM.reg;exact J (h j a) rfl
structure iU(p:PM)(k:Int)(v:bz):Prop where
 k:p.rg 3=some (.int k)
 v:∀i,i < 4->p.reg (4+i)=ov (v.col i)
theorem iU.keep{k:Int}{v:bz}(h:iU p k v)(a:∀j,j < 8->A j)(kp:dM A p p'):iU p' k v:=
 ⟨(kp 3 (a 3 (by exact by decide))).trans h.k,fun i hi=>(kp.reg (a (4+i) (by exact ai 0x1031400412031440c0040041 rfl hi))).trans (h.v i hi)⟩
theorem uT(a:∀j,j < 8->A j):∀(cols:List Nat) (f s:Nat) (p:PM),(∀i∈cols,i < 4)->aK P s (cU cols f)->iU p k v->(∀i,i<=cols.length->¬A (f+i))->
  ∃p',iG p p'/\dM A p p'/\(∀j,j < f->p'.rg j=p.rg j)/\(∀i (h:i < cols.length),p'.reg (f+i)=ov (v.col cols[i]))/\p'.reg (f+cols.length)=.int k/\∀r q,Ex nk P (s+(cU cols f).length) p' r q->Ex nk P s p r q
 | [],f,s,p,hc,h,hr,hA=>by refine⟨p.put f (p.reg 3),.put _ _,.put _ (by simpa using hA 0 (QR _)),fun j hj=>QN (QY hj),fun i h=>absurd h (Nat.not_lt_zero _),?_,fun r q x=>ax h rfl x⟩;refine J List.length_nil<|J (Nat.add_zero _)<|J (jb _ _ _ _)<|J (QM rfl) ?_;delta PM.reg;refine J hr.k ?_;rfl
 |c::cols,f,s,p,hc,h,hr,hA=>by
  obtain nf:¬A f:=by simpa using hA 0 (Nat.zero_le _)
  have kp:dM A p (p.put f (p.reg (4+c))):=.put _ nf;refine gk (uT a cols (f+1) (s+1) (p.put f (p.reg (4+c))) (fun i hi=>hc i (.tail _ hi)) h.tl (hr.keep a kp) (fun i hi=>by(refine J (Q4 _ _ _)<|J (Nat.add_comm 1 i) ?_);exact hA (i+1) (J QK<|ai 0x6140040043180043140040002 rfl hi))) fun p' h1 h2 h3 h4 h5 h6=>?_;refine⟨p',(iG.put _ _).trans h1,kp.trans h2,fun j hj=>(h3 j (Nat.lt_succ_of_lt hj)).trans (QN (QY hj)),fun i hi=>?_,?_,fun r q x=>ax h rfl (h6 r q (by(refine J (Q4 _ _ _)<|J (Nat.add_comm 1 _) ?_);exact x))⟩
  ·cases i with
   |zero=>refine(?_ :p'.reg f=ov (v.col c));delta PM.reg;refine J (h3 f (QS _))<|(?_ :((if f=f then some (p.reg (4+c)) else _).getD V.none)=_);exact J (QM rfl)<|hr.v c (hc c (.head _))
   |succ i=>
    have e:=h4 i (by obtain hi:=QK▸hi;exact ai 0x10c60010c5000041185040042 rfl hi)
    (obtain e:=(Q4 _ _ _)▸e;obtain e:=(Nat.add_comm 1 _)▸e);exact e
  ·(refine J QK<|J (Nat.add_comm cols.length 1)<|aQ (Q4 _ _ _) ?_);exact h5
theorem nj{cols:List Nat}{f:Nat}{v:bz}{k:Int}(h4:∀i (h:i < cols.length),p.reg (f+i)=ov (v.col cols[i]))(h5:p.reg (f+cols.length)=.int k):p.vals f cols.length=(cols.map (bz.col v)).map ov/\p.vals f (cols.length+1)=(cols.map (bz.col v)++ [some k]).map ov:=by
 have e1:p.vals f cols.length=(cols.map (bz.col v)).map ov:=by
  refine List.ext_getElem (by simp[PM.vals]) fun i h1 h2=>?_;obtain hi:i < cols.length:=by simpa [PM.vals] using h1
  simp only[PM.vals,List.getElem_map,List.getElem_range];exact h4 i hi
 refine⟨e1,?_⟩;delta PM.vals at*;refine J List.range_succ<|J List.map_append<|J e1<|J List.map_append ?_;refine(?_ :_++ [p.reg (f+cols.length)]=_);refine J h5 ?_;rfl
theorem mH(xs:List (Option Int)):hY (xs.map ov)=some xs:=by
 induction xs with
 |nil=>rfl
 |cons a xs ih=>
  refine(?_ :(match lD (ov a),hY (xs.map ov) with
   |some a,some b=>some (a::b)
   |_,_=>none)=_)
  refine J ih ?_;cases a<;>rfl
end
section
variable{P:List Op}{A:Nat->Prop}
theorem yS(v:bz)(hi:i < 4): [ov v.1,ov v.2.1,ov v.2.2.1,ov v.2.2.2][i]? =some (ov (v.col i)):=by
 match i,hi with
 |0,_=>rfl
 |1,_=>rfl
 |2,_=>rfl
 |3,_=>rfl
 |i+4,h=>exact absurd h (lin 0x103103140000101 rfl _)
theorem u_:∀(cols:List Nat) (R s:Nat) (p:PM),(∀i∈cols,i < 4)->aK P s (oO cols R)->p.at' 0=some (.int k)->cz p.rows k=some (aH v)->(∀j,R<=j->¬A j)->
  ∃p',iG p p'/\dM A p p'/\(∀j,j < R->p'.rg j=p.rg j)/\(∀i (h:i < cols.length),p'.reg (R+i)=ov (v.col cols[i]))/\∀r q,Ex nk P (s+(oO cols R).length) p' r q->Ex nk P s p r q
 | [],R,s,p,hc,h,ha,hl,hA=>⟨p,.refl,.refl,fun Y Y=>rfl,fun i h=>absurd h (Nat.not_lt_zero _),fun r q x=>x⟩
 |i0::cols,R,s,p,hc,h,ha,hl,hA=>by
  obtain i4:=hc i0 (.head _)
  obtain e0:i9 nk (.column i0 R) p=some (.next,p.put R (ov (v.col i0))):=by
   refine(?_ :(match p.at' 0 with
    |some (.int k)=>match cz p.rows k with
     |some (.tup ys)=>if ys.length<=1000 then ys[i0]?.map fun v=>(fY.next,p.put R v) else none
     |_=>none
    |_=>none)=_)
   refine J ha<|(?_ :(match cz p.rows k with
     |some (.tup ys)=>if ys.length<=1000 then ys[i0]?.map fun v=>(fY.next,p.put R v) else none
     |_=>none)=_)
   refine J hl ?_;show(if _ then [ov v.1,ov v.2.1,ov v.2.2.1,ov v.2.2.2][i0]?.map fun v=>(fY.next,p.put R v) else none)=_;(refine J (QM (by simp))<|J (yS v i4) ?_);rfl
  obtain kp:dM A p (p.put R (ov (v.col i0))):=.put _ (hA R (QR _));refine cR (u_ cols (R+1) (s+1) (p.put R (ov (v.col i0))) (fun i hi=>hc i (.tail _ hi)) h.tl ha hl (fun j hj=>hA j (ai 0x1810c5000040185040002 rfl hj))) fun p' h1 h2 h3 h4 h6=>⟨p',(iG.put _ _).trans h1,kp.trans h2,fun j hj=>(h3 j (Nat.lt_succ_of_lt hj)).trans (QN (QY hj)),fun i hi=>?_,fun r q x=>ax h e0 (h6 r q (by(refine J (Q4 _ _ _)<|J (Nat.add_comm 1 _) ?_);exact x))⟩
  cases i with
  |zero=>refine(?_ :p'.reg R=ov (v.col i0));delta PM.reg;refine J (h3 R (QS _))<|(?_ :((if R=R then some (ov (v.col i0)) else _).getD V.none)=_);refine J (QM rfl) ?_;rfl
  |succ i=>
   have e:=h4 i (by obtain hi:=QK▸hi;exact ai 0x10c60010c5000041185040042 rfl hi)
   (obtain e:=(Q4 _ _ _)▸e;obtain e:=(Nat.add_comm 1 _)▸e);exact e
structure L9(nk:Nat)(x:Ix):Prop where
 c1:1<=x.cur
 c2:x.cur<=nk
 co:∀i∈x.cols,i < 4
 le:x.cols.length<=2
 po:1<=x.cols.length
theorem cO(c:fZ):(∀x∈aG c,L9 (aG c).length x)/\((aG c).map (·.cur)).Nodup/\(aG c).length<=3/\1<=(aG c).length:=by obtain⟨k,p,m,d⟩:=c;cases p<;>cases m<;>(refine⟨fun x hx=>?_,by simp[aG],by simp[aG],by simp[aG]⟩;simp[aG] at hx;rcases hx with rfl|hx<;>first|exact⟨by simp,by simp[aG],by simp,by simp,by simp⟩|(rcases hx with rfl|rfl<;>exact⟨by simp,by simp[aG],by simp,by simp,by simp⟩)|(subst hx;exact⟨by simp,by simp[aG],by simp,by simp,by simp⟩))
theorem Bf:∀(L:List Ix) (R s:Nat) (p:PM),(∀x∈L,L9 nk x)->(L.map (·.cur)).Nodup->aK P s (iF L R)->p.at' 0=some (.int k)->cz p.rows k=some (aH v)->(∀x∈L,bc x k v∈p.ks x.cur)->(∀j,R<=j->¬A j)->R+eZ L<=1000000->
  ∃p',dM A p p'/\p'.rows=ju p.rows k/\p'.ch=p.ch/\(∀x∈L,p'.ks x.cur=(p.ks x.cur).erase (bc x k v))/\(∀cu,(∀x∈L,x.cur≠cu)->p'.ks cu=p.ks cu)/\∀r q,Ex nk P (s+(iF L R).length) p' r q->Ex nk P s p r q
 | [],R,s,p,ho,hn,h,ha,hl,hk,hA,hR=>by
  refine⟨{p with rows:=ju p.rows k},fun Y Y=>rfl,rfl,rfl,fun Y h=>(nomatch h),fun Y Y=>rfl,fun r q x=>ax h ?_ x⟩
  refine(?_ :(match p.at' 0 with
   |some (.int k)=>(cz p.rows k).map fun Y=>(fY.next,{p with rows:=ju p.rows k})
   |_=>none)=_)
  refine J ha<|(?_ :(cz p.rows k).map _=_);refine J hl ?_;rfl
 |x::L,R,s,p,ho,hn,h,ha,hl,hk,hA,hR=>by
  have ox:=ho x (.head _);rw [List.map_cons,List.nodup_cons] at hn;obtain hR:=hR;refine cR (u_ (nk:=nk) x.cols R s p ox.co h.left ha hl hA) fun p1 h1 h2 h3 h4 h5=>?_;have g:=h.right;let p2:=p1.put (R+x.cols.length) (.int k);obtain e2:i9 nk (.rowid (R+x.cols.length)) p1=some (.next,p2):=by refine(?_ :(p1.at' 0).map (fun v=>(fY.next,p1.put (R+x.cols.length) v))=_);(refine J h1.at'<|J ha ?_);rfl
  have v4:∀i (hi:i < x.cols.length),p2.reg (R+i)=ov (v.col x.cols[i]):=fun i hi=>by
   (refine J (jb _ _ _ _)<|J (QN (fun e=>ai 0x1870051c0001146140041003003080183 rfl hi e)) ?_);exact h4 i hi
  have v5:p2.reg (R+x.cols.length)=.int k:=by(exact J (jb _ _ _ _)<|J (QM rfl) rfl)
  have ev:=(nj v4 v5).2;have hk2:bc x k v∈p2.ks x.cur:=by exact J h1.ks<|hk x (.head _)
  let p3:=p2.kp x.cur ((p2.ks x.cur).erase (bc x k v));obtain e3:i9 nk (.idxDelete x.cur R (x.cols.length+1)) p2=some (.next,p3):=by have:=ox.le;refine(?_ :(if 1<=x.cur/\x.cur<=nk/\x.cols.length+1<=1000/\R<=1000000 then(hY (p2.vals R (x.cols.length+1))).bind fun w=>if w∈p2.ks x.cur then some (fY.next,p2.kp x.cur ((p2.ks x.cur).erase w)) else none else none)=_);refine J (QM ⟨ox.c1,ox.c2,ai 0x8314004000000fa04043140040001 rfl this,ai 0xf42401061400010000f4240105040002 rfl ‹_›⟩)<|J ev<|J (mH _)<|J (Option.bind_some _ _) ?_;exact QM hk2
  have k2:dM A p p3:=h2.trans (dM.put _ (hA _ (Nat.le_add_right _ _)));have ne:∀y∈L,y.cur≠x.cur:=fun y hy e=>hn.1 (e▸List.mem_map_of_mem hy);have ksx:∀cu,p3.ks cu=if cu=x.cur then(p.ks x.cur).erase (bc x k v) else p.ks cu:=fun cu=>by refine(?_ :(if cu=x.cur then(p1.ks x.cur).erase (bc x k v) else p1.ks cu)=_);exact J h1.ks rfl
  refine gk (Bf L (R+x.cols.length+1) (s+(oO x.cols R).length+1+1) p3 (fun y hy=>ho y (.tail _ hy)) hn.2 g.tl.tl (h1.at'▸ha) (h1.rows▸hl) (fun y hy=>by(refine J (ksx _)<|J (QN (ne y hy)) ?_);exact hk y (.tail _ hy)) (fun j hj=>hA j (ai 0x1810c7140000040185040003 rfl hj)) (ai 0xf4240107043180005000040003d090041c10c6140000040003 rfl hR)) fun p' q1 q2 q3 q4 q5 q6=>?_;refine⟨p',k2.trans q1,q2.trans (by exact J h1.rows rfl),q3.trans h1.ch,fun y hy=>?_,fun cu hcu=>?_,fun r q z=>h5 r q (ax g e2 (ax g.tl e3 (q6 r q ?_)))⟩
  ·refine Or.elim (List.mem_cons.mp hy) (fun ρ=>?_) fun hy=>?_
   ·refine J ρ ?_;(exact J (q5 _ ne)<|J (ksx _)<|J (QM rfl) rfl)
   ·exact J (q4 y hy)<|J (ksx _)<|J (QN (ne y hy)) rfl
  ·exact J (q5 cu fun y hy=>hcu y (.tail _ hy))<|J (ksx _)<|J (QN fun e=>hcu x (.head _) e.symm) rfl
  ·obtain this:s+(iF (x::L) R).length=s+(oO x.cols R).length+1+1+(iF L (R+x.cols.length+1)).length:=by
    (refine J QI<|J QK<|J QK ?_);exact QF (lin 0x1c10c10c61400000010c10c7000180140000003 rfl _ _ _) (lin 0x430431c0006005007043043185000000000003 rfl _ _ _)
   exact aQ this<|z
end
section
variable{nk:Nat}{P:List Op}{q p p':PM}{s k kind:Nat}
noncomputable def jM:cq->Nat
 |.rollback=>1
 |.fail=>2
 |_=>0
noncomputable def bX:cq->Bool
 |.ignore=>true
 |_=>false
noncomputable def AX(w:cq)(n:Int)(p:PM):PM:=match w with
 |.fail=>{p with ch:=p.ch+n}
 |_=>p
theorem iK(hn:p.rg 2=some (.int n)):i9 nk (.changes 2) p=some (.next,{p with ch:=p.ch+n}):=by
 refine(?_ :(match p.rg 2 with
  |some (.int i)=>some (fY.next,{p with ch:=p.ch+i})
  |_=>none)=_)
 exact J hn rfl
theorem kJ(h:aK P s (bo w kind k))(hn:p.rg 2=some (.int n))(hk:s < k):(bX w=true->∀r q,Ex nk P k p r q->Ex nk P s p r q)/\(bX w=false->Ex nk P s p (vi (jM w),.lit kind) (AX w n p)):=by
 cases w with
 |ignore=>exact⟨fun Y r q x=>dK h rfl hk x,fun h=>nomatch h⟩
 |fail=>exact⟨fun h=>(nomatch h),fun Y=>ax h (iK hn) (.fail h.tl.hd)⟩
 |abort=>exact⟨fun h=>(nomatch h),fun Y=>.fail h.hd⟩
 |rollback=>exact⟨fun h=>(nomatch h),fun Y=>.fail h.hd⟩
 |replace=>exact⟨fun h=>(nomatch h),fun Y=>.fail h.hd⟩
noncomputable def dG(c:fZ)(w:cq)(v:bz):Except (Option Nat) bz:=match v.2.2.1 with
 |some _=>.ok v
 |none=>match bX w with
  |true=>.error none
  |false=>match c.dflt,aY w with
   |some d,true=>.ok (v.1,v.2.1,some d,v.2.2.2)
   |_,_=>.error (some 33)
noncomputable def gm(w:cq)(v:bz):Except (Option Nat) bz:=match v.2.2.2 with
 |some d=>if d < 0 then .error (if bX w then none else some 38) else .ok v
 |none=>.ok v
def Hx(nk:Nat)(P:List Op)(s:Nat)(p:PM)(w:cq)(n key:Int)(k e:Nat):Except (Option Nat) bz->Prop
 |.ok v'=>∃p',iG p p'/\(∀j,j≠6->p'.rg j=p.rg j)/\iU p' key v'/\∀r q,Ex nk P e p' r q->Ex nk P s p r q
 |.error none=>∃p',iG p p'/\(∀j,j≠6->p'.rg j=p.rg j)/\∀r q,Ex nk P k p' r q->Ex nk P s p r q
 |.error (some kind)=>∃p',iG p p'/\Ex nk P s p (vi (jM w),.lit kind) (AX w n p')
theorem wg(o:Option Int):lD (ov o)=some o:=by cases o<;>rfl
theorem eW(h:p.reg j=ov o):i9 nk (.notNull j t) p=some (nR o.isSome t,p):=by refine(?_ :(lD (p.reg j)).map _=_);(refine J h<|J (wg _) ?_);rfl
theorem gR(w:cq)(kind k:Nat):0 < (bo w kind k).length:=by cases w<;>exact Nat.zero_lt_succ _
theorem zJ(h:aK P s (c7 c w s k))(hr:iU p key v)(hn:p.rg 2=some (.int n))(hk:s+(c7 c w s k).length<=k):Hx nk P s p w n key k (s+(c7 c w s k).length) (dG c w v):=by
 have h6:p.reg 6=ov v.2.2.1:=hr.v 2 (by decide)
 have plain:∀(h:aK P s (.notNull 6 (s+1+(bo w 33 k).length)::bo w 33 k)) (hk:s+(1+(bo w 33 k).length)<=k),(∀o,v.2.2.1=some o->Hx nk P s p w n key k (s+1+(bo w 33 k).length) (.ok v))/\(v.2.2.1=none->Hx nk P s p w n key k (s+1+(bo w 33 k).length) (.error (if bX w then none else some 33))):=fun h hk=>by
  refine⟨fun o e=>⟨p,.refl,fun Y Y=>rfl,hr,fun r q x=>?_⟩,fun e=>?_⟩
  ·exact dK h (by(refine J (eW h6)<|J e ?_);rfl) (by obtain this:=gR w 33 k;exact lin 0x6043140005000042 rfl _ _) x
  ·refine xA (kJ (nk:=nk) h.tl hn (by obtain this:=gR w 33 k;exact ai 0x70030010461c10c0140001006043140080043 rfl hk this)) fun r1 r2=>?_;have st:i9 nk (.notNull 6 (s+1+(bo w 33 k).length)) p=some (.next,p):=by(refine J (eW h6)<|J e ?_);rfl
   refine fE (bX w) (fun ei=>?_) fun ei=>?_
   ·exact⟨p,.refl,fun Y Y=>rfl,fun r q x=>ax h st (r1 ei r q x)⟩
   ·exact⟨p,.refl,ax h st (r2 ei)⟩
 have pl:c7 c w s k=.notNull 6 (s+1+(bo w 33 k).length)::bo w 33 k->(v.2.2.1=none->dG c w v=.error (if bX w then none else some 33))->Hx nk P s p w n key k (s+(c7 c w s k).length) (dG c w v):=fun e1 e2=>by
  rw [e1] at h hk ⊢;rw [List.length_cons] at hk ⊢;refine xA (plain h (by exact ai 0x70431801400010071810c0140040003 rfl hk)) fun q1 q2=>J (show s+((bo w 33 k).length+1)=s+1+(bo w 33 k).length by exact QF (lin 0x1810c5000043180140000002 rfl _ _) (lin 0x431801401810c5000000002 rfl _ _))<|iS v.2.2.1 (fun e=>?_) fun o e=>?_
  ·exact J (e2 e)<|q2 e
  ·exact J (show dG c w v=.ok v from by delta dG;exact J e rfl)<|q1 o e
 cases ed:c.dflt with
 |none=>refine pl (by delta c7;exact J ed rfl) fun e=>?_;delta dG;(refine J e<|J ed ?_);cases bX w<;>rfl
 |some d=>
  cases er:aY w with
  |false=>refine pl (by delta c7;(exact J ed<|J er rfl)) fun e=>?_;delta dG;(refine J e<|J ed<|J er ?_);cases bX w<;>rfl
  |true=>
   have e1:c7 c w s k= [.notNull 6 (s+5),.value 6 (.int d),.aff 6 1,.notNull 6 (s+5),.fail 0 33]:=by delta c7;(exact J ed<|J er rfl)
   obtain ei:bX w=false:=by cases w<;>first|rfl|exact nomatch er
   rw [e1] at h ⊢;refine iS v.2.2.1 (fun e=>?_) fun o e=>?_
   ·refine J (show dG c w v=.ok (v.1,v.2.1,some d,v.2.2.2) from by delta dG;(exact J e<|J ed<|J er<|J ei rfl)) ?_;refine⟨p.put 6 (.int d),.put _ _,fun j hj=>QN hj,⟨hr.k,fun i hi=>?_⟩,fun r q x=>ax h (by(refine J (eW h6)<|J e ?_);rfl) (ax h.tl rfl (ax h.tl.tl rfl (dK (t:=s+5) h.tl.tl.tl (by refine J (eW (o:=some d) (by(refine J (jb _ _ _ _)<|J (QM rfl) ?_);rfl)) ?_;rfl) (lin 0x143140043043043140000000041 rfl _) x)))⟩;refine J (jb _ _ _ _) ?_
    match i,hi with
    |0,_=>exact hr.v 0 (by decide)
    |1,_=>exact hr.v 1 (by decide)
    |2,_=>rfl
    |3,_=>exact hr.v 3 (by decide)
    |i+4,h=>exact absurd h (lin 0x103103140000101 rfl _)
   ·refine J (show dG c w v=.ok v from by delta dG;exact J e rfl)<|⟨p,.refl,fun Y Y=>rfl,hr,fun r q x=>dK (t:=s+5) h (by(refine J (eW h6)<|J e ?_);rfl) (lin 0x50c5005000041 rfl _) x⟩
theorem Ak(h:aK P s (eE w s k))(hr:iU p key v)(hn:p.rg 2=some (.int n))(hz:p.rg 1=some (.int 0))(hk:s+(eE w s k).length<=k):Hx nk P s p w n key k (s+(eE w s k).length) (gm w v):=by
 obtain h7:p.reg 7=ov v.2.2.2:=hr.v 3 (by decide);have h1:p.reg 1=ov (some 0):=by delta PM.reg;refine J hz ?_;rfl
 have hl:(eE w s k).length=1+(bo w 38 k).length:=by delta eE;(exact J QK<|J (Nat.add_comm _ _) rfl)
 have pos:=gR w 38 k
 have st:i9 nk (.cmpGe 7 (s+1+(bo w 38 k).length) 1) p=(match v.2.2.2 with
   |some x=>some (nR (decide (0<=x)) (s+1+(bo w 38 k).length),p)
   |none=>some (.jump (s+1+(bo w 38 k).length),p)):=by
  refine(?_ :(match lD (p.reg 7),lD (p.reg 1) with
   |some (some x),some (some y)=>some (nR (decide (y<=x)) _,p)
   |some _,some _=>some (.jump _,p)
   |_,_=>none)=_)
  refine J h7<|J h1<|J (wg _)<|J (wg _) ?_;cases v.2.2.2<;>rfl
 have good:i9 nk (.cmpGe 7 (s+1+(bo w 38 k).length) 1) p=some (.jump (s+1+(bo w 38 k).length),p)->Hx nk P s p w n key k (s+(eE w s k).length) (.ok v):=fun e=>⟨p,.refl,fun Y Y=>rfl,hr,fun r q x=>dK h e (lin 0x6043140005000042 rfl _ _) (by(obtain x:=hl▸x;obtain x:=(Q4 _ _ _)▸x);exact x)⟩
 delta gm
 cases e:v.2.2.2 with
 |none=>obtain st:=e▸st;exact good st
 |some d=>
  rw [e] at st;refine(?_ :Hx nk P s p w n key k _ (if d < 0 then _ else _));by_cases hd:d < 0
  ·refine J (QM hd) ?_;have st:i9 nk (.cmpGe 7 (s+1+(bo w 38 k).length) 1) p=some (.next,p):=by refine J st<|(?_ :some (nR (decide (0<=d)) _,p)=_);refine J (QP (by lia)) ?_;rfl
   refine xA (kJ (nk:=nk) h.tl hn (ai 0x2000c00412010c01c00451871400010060431400c0044 rfl hk hl pos)) fun r1 r2=>fE (bX w) (fun ei=>?_) fun ei=>?_
   ·exact⟨p,.refl,fun Y Y=>rfl,fun r q x=>ax h st (r1 ei r q x)⟩
   ·exact⟨p,.refl,ax h st (r2 ei)⟩
  ·refine J (QN hd)<|good (by refine J st<|(?_ :some (nR (decide (0<=d)) _,p)=_);refine J (QO (by lia)) ?_;rfl)
end
section
variable{P:List Op}{s k kind:Nat}{A:Nat->Prop}{c:fZ}{T:Tb}
structure hW(p p':PM):Prop where
 rows:p'.rows=p.rows
 ks:p'.ks=p.ks
 ch:p'.ch=p.ch
theorem iG.same(h:iG p p'):hW p p':=⟨h.rows,h.ks,h.ch⟩
theorem hW.trans(a:hW p p')(b:hW p' p''):hW p p'':=⟨b.rows.trans a.rows,b.ks.trans a.ks,b.ch.trans a.ch⟩
theorem hW.refl:hW p p:=⟨rfl,rfl,rfl⟩
structure Inv(c:fZ)(T:Tb)(p:PM):Prop where
 rows:p.rows=T.map fun e=>(e.1,aH e.2)
 ks:∀x∈aG c,(p.ks x.cur).Perm (T.map fun e=>bc x e.1 e.2)
 nd:(T.map (·.1)).Nodup
theorem Inv.same (h:Inv c T p) (e:hW p p'):Inv c T p':=⟨e.rows.trans h.rows,fun x hx=>J e.ks<|h.ks x hx,h.nd⟩
theorem vW(k:Int):∀T:Tb,cz (T.map fun e=>(e.1,aH e.2)) k=(T.lookup k).map aH
 | []=>rfl
 |(j,v)::T=>by
  refine(?_ :List.lookup k ((j,aH v)::_)=(List.lookup k ((j,v)::T)).map aH);unfold List.lookup;refine rt (k == j) ?_ ?_
  ·rfl
  ·exact vW k T
theorem uE(k:Int):∀T:Tb,ju (T.map fun e=>(e.1,aH e.2)) k=(eB T k).map fun e=>(e.1,aH e.2)
 | []=>rfl
 |(j,v)::T=>by
  refine(?_ :(if j=k then T.map _ else(j,aH v)::ju (T.map fun e=>(e.1,aH e.2)) k)=(if j=k then T else(j,v)::eB T k).map _);by_cases e:j=k
  ·exact J (QM e)<|J (QM e) rfl
  ·(refine J (QN e)<|J (QN e)<|J (uE k T) ?_);rfl
theorem bF(k:Int):∀T:Tb,(T.map (·.1)).Nodup->eB T k=T.filter fun e=>e.1 != k
 | [],_=>rfl
 |(j,v)::T,h=>by
  rw [List.map_cons,List.nodup_cons] at h;refine(?_ :(if j=k then T else(j,v)::eB T k)=_);by_cases e:j=k
  ·rw [if_pos e,List.filter_cons_of_neg (by simpa using e),List.filter_eq_self.mpr fun q hq=>by
    obtain this:q.1≠k:=fun e2=>h.1 (by(refine J e<|aQ e2 ?_);exact List.mem_map.mpr ⟨q,hq,rfl⟩);simpa using this]
  ·exact J (QN e)<|J (List.filter_cons_of_pos (by simpa using e))<|J (bF k T h.2) rfl
theorem kC{k:Int}{v:bz}(h:T.lookup k=some v):(k,v)∈T:=by
 induction T with
 |nil=>exact nomatch h
 |cons e T ih=>
  unfold List.lookup at h;by_cases c:k=e.1
  ·rw [show(k == e.1)=true from beq_iff_eq.mpr c] at h;refine bt h ?_;rw [c];exact .head _
  ·rw [show(k == e.1)=false from beq_eq_false_iff_ne.mpr c] at h;exact .tail _ (ih h)
theorem fH{k:Int}{v:bz}(nd:(T.map (·.1)).Nodup)(h:(k,v)∈T):T.lookup k=some v:=by
 induction T with
 |nil=>exact nomatch h
 |cons e T ih=>
  rw [List.map_cons,List.nodup_cons] at nd;unfold List.lookup;refine Or.elim (List.mem_cons.mp h) (fun ρ=>?_) fun h=>?_
  ·refine aQ ρ ?_;rw [show(k == (k,v).1)=true from beq_iff_eq.mpr rfl]
  ·obtain this:k≠e.1:=fun e2=>nd.1 (e2▸List.mem_map.mpr ⟨(k,v),h,rfl⟩);rw [show(k == e.1)=false from beq_eq_false_iff_ne.mpr this];exact ih nd.2 h
theorem pb{k:Int}{v:bz}(h:T.lookup k=some v):T.Perm ((k,v)::eB T k):=by
 induction T with
 |nil=>exact nomatch h
 |cons e T ih=>
  obtain⟨j,u⟩:=e;unfold List.lookup at h;show((j,u)::T).Perm ((k,v)::if j=k then T else(j,u)::eB T k);by_cases c:k=j
  ·rw [show(k == j)=true from beq_iff_eq.mpr c] at h;refine bt h<|aQ c ?_;rw [if_pos rfl]
  ·rw [show(k == j)=false from beq_eq_false_iff_ne.mpr c] at h;exact J (QN fun e=>c e.symm)<|((ih h).cons _).trans (.swap _ _ _)
theorem Inv.del(h:Inv c T p){k:Int}{v:bz}(hl:T.lookup k=some v)(hr:p'.rows=ju p.rows k)(hk:∀x∈aG c,p'.ks x.cur=(p.ks x.cur).erase (bc x k v)):Inv c (eB T k) p' where
 rows:=by(exact J hr<|J h.rows<|J (uE _ _) rfl)
 ks x hx:=by refine J (hk x hx) ?_;obtain this:=((h.ks x hx).trans ((pb hl).map fun e=>bc x e.1 e.2)).erase (bc x k v);rwa [List.map_cons,List.erase_cons_head] at this
 nd:=J (bF k T h.nd)<|(List.filter_sublist.map _).nodup h.nd
theorem Inv.mem(h:Inv c T p){k:Int}{v:bz}(hl:T.lookup k=some v){x:Ix}(hx:x∈aG c):bc x k v∈p.ks x.cur:=(h.ks x hx).symm.subset (List.mem_map_of_mem (kC hl))
theorem Inv.look(h:Inv c T p)(k:Int):cz p.rows k=(T.lookup k).map aH:=by(exact J h.rows<|J (vW _ _) rfl)
theorem kt(h:aK P s (iF (aG c) k))(i:Inv c T p){u:Int}{z:bz}(ha:p.at' 0=some (.int u))(hl:T.lookup u=some z)(hA:∀j,k<=j->¬A j)(hR:k+eZ (aG c)<=1000000):
  ∃p',dM A p p'/\Inv c (eB T u) p'/\p'.ch=p.ch/\∀r q,Ex (aG c).length P (s+(iF (aG c) k).length) p' r q->Ex (aG c).length P s p r q:=by
 refine gk (Bf (aG c) k s p (cO c).1 (cO c).2.1 h ha (by(refine J (i.look _)<|J hl ?_);rfl) (fun x hx=>i.mem hl hx) hA hR) fun p' h1 h2 h3 h4 Y h6=>?_;exact⟨p',h1,i.del hl h2 h4,h3,h6⟩
theorem km(h:p.reg j=.int u):i9 nk (.seek t j) p=some (nR (cz p.rows u).isNone t,p.atp 0 (.int u))/\i9 nk (.notExists t j) p=some (nR (cz p.rows u).isNone t,p.atp 0 (.int u)):=by constructor<;>(refine(?_ :(match p.reg j with|.int k=>some (nR (cz p.rows k).isNone t,p.atp 0 (.int k))|_=>none)=_);exact J h rfl)
theorem x8(h:p.reg j=.int u)(h2:p.reg o=.int z):i9 nk (.cmpEq j t o) p=some (nR (u == z) t,p):=by
 refine(?_ :(match lD (p.reg j),lD (p.reg o) with
  |some (some x),some (some y)=>some (nR (x == y) t,p)
  |some _,some _=>some (.next,p)
  |_,_=>none)=_)
 (refine J h<|J h2 ?_);rfl
def rQ(p:PM):Option Nat->Option Int->Prop
 |some o,some u=>p.rg o=some (.int u)
 |none,none=>True
 |_,_=>False
def Cf(c:fZ)(P:List Op)(s:Nat)(p:PM)(w:cq)(n:Int)(A:Nat->Prop)(k e:Nat)(kind:Nat)(T T':Tb)(b:Bool):Prop:=
 if aY w || !b then∃p',dM A p p'/\Inv c T' p'/\p'.ch=p.ch/\∀r q,Ex (aG c).length P e p' r q->Ex (aG c).length P s p r q
 else if bX w then∃p',dM A p p'/\Inv c T p'/\p'.ch=p.ch/\∀r q,Ex (aG c).length P k p' r q->Ex (aG c).length P s p r q
 else∃p',Inv c T p'/\p'.ch=p.ch/\Ex (aG c).length P s p (vi (jM w),.lit kind) (AX w n p')
theorem Cf.of(s1:p1.ch=p.ch)(k1:dM A p p1)(st:∀r q,Ex (aG c).length P s2 p1 r q->Ex (aG c).length P s p r q)(h:Cf c P s2 p1 w n A k e kind T T' b):Cf c P s p w n A k e kind T T' b:=by
 delta Cf at*;by_cases c1:(aY w || !b)=true
 ·rw [if_pos c1] at h ⊢;exact bA h fun p' h1 h2 h3 h4=>⟨p',k1.trans h1,h2,h3.trans s1,fun r q x=>st r q (h4 r q x)⟩
 ·rw [if_neg c1] at h ⊢;by_cases c2:bX w=true
  ·rw [if_pos c2] at h ⊢;exact bA h fun p' h1 h2 h3 h4=>⟨p',k1.trans h1,h2,h3.trans s1,fun r q x=>st r q (h4 r q x)⟩
  ·rw [if_neg c2] at h ⊢;exact bP h fun p' h1 h2 h3=>⟨p',h1,h2.trans s1,st _ _ h3⟩
theorem i7(i:Inv c T p)(st:∀r q,Ex (aG c).length P e p r q->Ex (aG c).length P s p r q):Cf c P s p w n A k e kind T T false:=by delta Cf;exact J (QM (by simp))<|⟨p,.refl,i,rfl,st⟩
theorem pd(i:Inv c T p)(hw:aY w=false)(h:aK P s (bo w kind k))(hn:p.rg 2=some (.int n))(hk:s < k):Cf c P s p w n A k e kind T T' true:=by
 refine xA (kJ (nk:=(aG c).length) h hn hk) fun r1 r2=>?_;delta Cf;refine J (QN (by simp[hw]))<|fE (bX w) (fun ei=>?_) fun ei=>?_
 ·exact⟨p,.refl,i,rfl,r1 ei⟩
 ·exact⟨p,i,rfl,r2 ei⟩
end
section
variable{q p p':PM}{T:Tb}
noncomputable def i8(key:Int)(was:Option Int)(e:Int×bz):Bool:=e.1 == key && some e.1 != was
theorem v_(h:was=some key):T.any (i8 key was)=false/\T.filter (fun e=> !i8 key was e)=T:=by
 have:∀e:Int×bz,i8 key was e=false:=fun e=>by
  delta i8;refine J h ?_;by_cases c:e.1=key
  ·refine J c ?_;simp
  ·simp[c]
 exact⟨by simp[this],by simp[this]⟩
theorem kQ(h:was≠some key)(nd:(T.map (·.1)).Nodup):T.any (i8 key was)=(T.lookup key).isSome/\T.filter (fun e=> !i8 key was e)=eB T key:=by
 have e0:∀e:Int×bz,i8 key was e=(e.1 == key):=fun e=>by
  delta i8;by_cases c:e.1=key
  ·refine J c ?_;simp[Ne.symm h]
  ·simp[c]
 constructor
 ·refine iS (T.lookup key) (fun e=>?_) fun z e=>?_
  ·refine jj List.any_eq_false ?_;intro e1 he hc;rw [e0,beq_iff_eq] at hc;rw [fH nd (k:=key) (aQ hc<|he)] at e;exact nomatch e
  ·exact jj List.any_eq_true<|⟨_,kC e,J (e0 _)<|beq_self_eq_true _⟩
 ·refine J (bF key T nd)<|List.filter_congr fun e Y=>by refine J (e0 _) ?_;rfl
theorem kB(h:rQ p old was)(k:dM A p p')(a:∀o,old=some o->A o):rQ p' old was:=by cases old<;>cases was<;>first|exact h|(refine(?_ :p'.rg _=_);exact J (k _ (a _ rfl))<|h)
theorem kN(h:p.rg j=some z):p.reg j=z:=by delta PM.reg;refine J h ?_;rfl
theorem A4(h:aK P s (dX old j t++Q))(hj:p.reg j=.int u)(ho:rQ p old was)(ht:s+(dX old j t).length < t+1):(was=some u->∀r q,Ex nk P t p r q->Ex nk P s p r q)/\(was≠some u->∀r q,Ex nk P (s+(dX old j t).length) p r q->Ex nk P s p r q):=by
 cases old with
 |none=>
  cases was with
  |none=>exact⟨fun h=>(nomatch h),fun Y r q x=>x⟩
  |some _=>exact ho.elim
 |some o=>
  cases was with
  |none=>exact ho.elim
  |some z=>
   have st:=x8 (nk:=nk) (t:=t) hj (kN ho);refine⟨fun e r q x=>?_,fun e r q x=>?_⟩
   ·cases e;exact dK h (by(refine J st<|J (show(u == u)=true from beq_self_eq_true u) ?_);rfl) (by have:s+1 < t+1:=ht;exact ai 0x10c60010c5000041185040042 rfl this) x
   ·exact ax h (by(refine J st<|J (show(u == z)=false from beq_eq_false_iff_ne.mpr fun e2=>e (J e2 rfl)) ?_);rfl) x
theorem zK(h:aK P s (fj c w old R s k))(i:Inv c T p)(hr:iU p key v)(hn:p.rg 2=some (.int n))(a8:∀j,j < 8->A j)(ho:rQ p old was)(hA:∀j,R<=j->¬A j)(hR:R+eZ (aG c)<=1000000)(hk:s+(fj c w old R s k).length<=k):
  Cf c P s p w n A k (s+(fj c w old R s k).length) 43 T (T.filter fun e=> !i8 key was e) (T.any (i8 key was)):=by
 let f:=s+(dX old 0 0).length+1+(eG c w R k).length;have lo:(dX old 3 f).length=(dX old 0 0).length:=by cases old<;>rfl
 have hl:(fj c w old R s k).length=(dX old 3 f).length+(1+(eG c w R k).length):=by refine(?_ :(dX old 3 f++(_::eG c w R k)).length=_);(refine J QI<|J QK ?_);exact QF (lin 0x1810c0140043180140000002 rfl _ _) (lin 0x431801401810c0140000002 rfl _ _)
 have hf:s+(fj c w old R s k).length=f:=by(refine J hl<|J lo ?_);exact QF (lin 0x1c10c61400001c10c0180140000003 rfl _ _ _) (lin 0x1c10c01801401c10c6140000000003 rfl _ _ _)
 have h:aK P s (dX old 3 f++(.notExists f 3::eG c w R k)):=h;rw [hf] at hk ⊢;have h3:=kN hr.k;refine xA (A4 (nk:=(aG c).length) h h3 ho (by refine J lo<|(?_ :_ < s+_+1+_+1);exact lin 0x431c10c6140000006140000043 rfl _ _ _)) fun o1 o2=>?_;by_cases hw:was=some key
 ·refine xA (v_ (T:=T) hw) fun e1 e2=>?_;refine J e1<|J e2 ?_;exact i7 i (o1 hw)
 ·refine xA (kQ hw i.nd) fun e1 e2=>?_;refine J e1<|J e2 ?_;have g:=h.right;have st:=(km (nk:=(aG c).length) (t:=f) h3).2;have sm:hW p (p.atp 0 (.int key)):=⟨rfl,rfl,rfl⟩
  obtain lt:s+(dX old 3 f).length < f:=by refine J lo<|(?_ :_ < s+_+1+_);exact lin 0x7043185000006140000043 rfl _ _ _
  cases e:T.lookup key with
  |none=>
   have td:eB T key=T:=by
    rw [bF key T i.nd,List.filter_eq_self.mpr fun q hq=>by
     obtain this:q.1≠key:=fun e3=>by rw [fH i.nd (k:=key) (aQ e3<|hq)] at e;exact nomatch e
     simpa using this]
   refine J td<|Cf.of (p1:=p.atp 0 (.int key)) rfl (fun Y Y=>rfl) (fun r q z=>o2 hw r q (dK g (by(refine J st<|J (i.look _)<|J e ?_);rfl) lt z)) (i7 (i.same sm) fun r q z=>z)
  |some z=>
   refine Cf.of (p1:=p.atp 0 (.int key)) rfl (fun Y Y=>rfl) (fun r q y=>o2 hw r q (ax g (by(refine J st<|J (i.look _)<|J e ?_);rfl) y)) ?_;have g2:=g.tl;refine fE (aY w) (fun er=>?_) fun er=>?_
   ·have eb:eG c w R k=iF (aG c) R:=by delta eG;refine J er ?_;rfl
    rw [eb] at g2;refine bA (kt g2 (i.same sm) rfl e hA hR) fun p' q1 q2 q3 q4=>?_;delta Cf;refine J (QM (by refine J er ?_;rfl)) ?_;refine⟨p',q1,q2,q3,fun r q y=>q4 r q ?_⟩;refine J (show s+(dX old 3 f).length+1+(iF (aG c) R).length=f from by(exact J lo<|aQ eb rfl)) ?_;exact y
   ·have eb:eG c w R k=bo w 43 k:=by delta eG;refine J er ?_;rfl
    rw [eb] at g2;obtain l1:=gR w 43 k;obtain l2:s+(dX old 3 f).length+1+(bo w 43 k).length=f:=by(exact J lo<|aQ eb rfl)
    exact pd (i.same sm) er g2 hn (ai 0x2090431850000000422400c00411c80010070431850000c0045 rfl hk l1 l2)
noncomputable def Ix.of(x:Ix)(v:bz):List (Option Int):=x.cols.map (bz.col v)
noncomputable def mt(x:Ix)(was:Option Int)(v:bz)(e:Int×bz):Bool:=some e.1 != was && (!(x.of v).contains none && x.of e.2 == x.of v)
def MP(x:Ix)(T:Tb):Prop:=∀e1∈T,∀e2∈T,x.of e1.2=x.of e2.2->none ∉ x.of e1.2->e1=e2
theorem Hk(nd:T.Nodup)(h:∀a∈T,∀b∈T,f a=true->f b=true->a=b)(e:T.filter f=e0::r0):r0= []:=by
 cases r0 with
 |nil=>rfl
 |cons b r0=>have m:∀z∈e0::b::r0,z∈T/\f z=true:=fun z hz=>List.mem_filter.mp (e▸hz);obtain nd2:(e0::b::r0).Nodup:=aQ e<|nd.filter _;exact xA (m e0 (.head _)) fun a1 a2=>xA (m b (.tail _ (.head _))) fun b1 b2=>absurd (h _ a1 _ b1 a2 b2▸List.mem_cons_self) (List.nodup_cons.mp nd2).1
theorem Gm (h:∀e∈T,f e=false):T.any f=false:=by refine jj List.any_eq_false ?_;intro e he;exact J (h e he)<|Bool.false_ne_true
theorem Ga(hx:x∈aG c)(h:aK P s (cU x.cols f++(.noConfl x.cur F f x.cols.length::.idxRowid x.cur o2::(dX old o2 F++iC c w (o2+1) k F o2))))(hF:F=s+(cU x.cols f++(.noConfl x.cur F f x.cols.length::.idxRowid x.cur o2::(dX old o2 F++iC c w (o2+1) k F o2))).length)
  (i:Inv c T p)(co:MP x T)(hr:iU p key v)(hn:p.rg 2=some (.int n))(a8:∀j,j < 8->A j)(ho:rQ p old was)(ao:∀o,old=some o->A o)(hf:∀j,j<=x.cols.length->¬A (f+j))(f6:f<=1000000)(hA:∀j,o2<=j->¬A j)(hR:o2+1+eZ (aG c)<=1000000)(hk:F<=k):
  Cf c P s p w n A k F 45 T (T.filter fun e=> !mt x was v e) (T.any (mt x was v)):=by
 have ox:=(cO c).1 x hx;refine gk (uT (nk:=(aG c).length) a8 x.cols f s p ox.co h.left hr hf) fun p1 h1 h2 Y h4 h5 h6=>?_;have g:=h.right;rw [List.length_append,List.length_cons,List.length_cons,List.length_append] at hF;have i1:=i.same h1.same;refine xA (nj h4 h5) fun ev Y=>?_;have le:=ox.le;have po:=ox.po
 obtain kl:∀z∈p1.ks x.cur,x.cols.length < z.length/\z.length<=1000:=fun z hz=>by
  refine an (List.mem_map.mp ((i1.ks x hx).subset hz)) fun e Y ρ=>aQ ρ ?_;have hl:(bc x e.1 e.2).length=x.cols.length+1:=by delta bc;(refine J QI<|J (QJ _) ?_);rfl
  exact⟨ai 0x43140180045185040042 rfl hl,ai 0x10c60050010820c60010000003e8105080002 rfl le hl⟩
 have st:i9 (aG c).length (.noConfl x.cur F f x.cols.length) p1=some (if none∈x.of v then(fY.jump F,p1) else match(p1.ks x.cur).filter (fun z=>z.take x.cols.length == x.of v) with
   | []=>(.jump F,p1)
   |z::_=>(.next,p1.atp x.cur (.tup (z.map ov)))):=by
  refine(?_ :(if 1<=x.cur/\x.cur<=(aG c).length/\x.cols.length<=1000/\f<=1000000/\∀z∈p1.ks x.cur,x.cols.length < z.length/\z.length<=1000 then(hY (p1.vals f x.cols.length)).map _ else none)=_);(refine J (QM ⟨ox.c1,ox.c2,ai 0x20c50010000003e8105040001 rfl le,f6,kl⟩)<|J ev<|J (mH _) ?_);rfl
 have fine:i9 (aG c).length (.noConfl x.cur F f x.cols.length) p1=some (fY.jump F,p1)->(∀e∈T,mt x was v e=false)->Cf c P s p w n A k F 45 T (T.filter fun e=> !mt x was v e) (T.any (mt x was v)):=fun e1 e2=>by refine J (show T.any (mt x was v)=false from Gm e2)<|J (List.filter_eq_self.mpr fun e he=>by refine J (e2 e he) ?_;rfl) ?_;exact Cf.of h1.ch h2 (fun r q z=>h6 r q (dK g e1 (ai 0x10c10c92000001801401c00451c6140040045 rfl hF) z)) (i7 i1 fun r q z=>z)
 by_cases hnone:none∈x.of v
 ·rw [if_pos hnone] at st;exact fine st fun e he=>by delta mt;refine J (show(x.of v).contains none=true from by simpa using hnone) ?_;simp
 ·rw [if_neg hnone] at st;obtain hc0:(x.of v).contains none=false:=by simpa using hnone
  have pf:((p1.ks x.cur).filter fun z=>z.take x.cols.length == x.of v).Perm ((T.filter fun e=>x.of e.2 == x.of v).map fun e=>bc x e.1 e.2):=by
   refine((i1.ks x hx).filter _).trans<|J List.filter_map ?_;have:∀e:Int×bz,(((fun z:List (Option Int)=>z.take x.cols.length == x.of v)∘fun e:Int×bz=>bc x e.1 e.2) e)=(x.of e.2 == x.of v):=fun e=>by refine(?_ :((x.cols.map (bz.col e.2)++ [some e.1]).take x.cols.length == x.of v)=_);refine J (List.take_left' (J (QJ _) rfl)) ?_;rfl
   rw [List.filter_congr fun e Y=>this e]
  cases em:T.filter fun e=>x.of e.2 == x.of v with
  |nil=>
   obtain pf:=em▸pf;rw [pf.eq_nil] at st;refine fine st fun e he=>?_
   have:(x.of e.2 == x.of v)=false:=by
    refine fE ((x.of e.2 == x.of v)) (fun cc=>?_) fun cc=>?_
    ·exact absurd (em▸List.mem_filter.mpr ⟨he,cc⟩:e∈([]:Tb)) (by simp)
    ·rfl
   delta mt;refine J this ?_;simp
  |cons e0 r0=>
   obtain ndT:T.Nodup:=(List.pairwise_map.mp i.nd).imp fun h e=>h (congrArg (·.1) e);have uniq:∀a∈T,∀b∈T,(x.of a.2 == x.of v)=true->(x.of b.2 == x.of v)=true->a=b:=fun a ha b hb h1 h2=>co a ha b hb ((beq_iff_eq.mp h1).trans (beq_iff_eq.mp h2).symm) (J (beq_iff_eq.mp h1)<|hnone);have:=Hk ndT uniq em;subst this;refine xA (List.mem_filter.mp (em▸List.mem_cons_self:e0∈T.filter fun e=>x.of e.2 == x.of v)) fun m0 q0=>?_;rw [em] at pf;rw [List.perm_singleton.mp pf] at st;let p2:=p1.atp x.cur (.tup ((bc x e0.1 e0.2).map ov));let p3:=p2.put o2 (.int e0.1)
   obtain st2:i9 (aG c).length (.idxRowid x.cur o2) p2=some (.next,p3):=by
    refine(?_ :(match(if x.cur=x.cur then some (V.tup ((bc x e0.1 e0.2).map ov)) else p1.at' x.cur) with
     |some (.tup ys)=>if ys.length<=1000 then ys.getLast?.map fun v=>(fY.next,p2.put o2 v) else none
     |_=>none)=_)
    refine J (QM rfl)<|(?_ :(if((bc x e0.1 e0.2).map ov).length<=1000 then((bc x e0.1 e0.2).map ov).getLast?.map _ else none)=_);delta bc;(refine J (QM (by(refine J (QJ _)<|J QI<|J (QJ _)<|J List.length_singleton ?_);exact ai 0x8314004000000fa04043140040001 rfl le)) ?_;refine J List.map_append ?_);refine J (List.getLast?_concat) ?_;rfl
   have sm:hW p p3:=⟨h1.rows,h1.ks,h1.ch⟩
   have kp:dM A p p3:=h2.trans (fun j hj=>QN fun e:j=o2=>hA o2 (QR _) (e▸hj));have i3:=i.same sm;have r3:p3.reg o2=.int e0.1:=by(exact J (jb _ _ _ _)<|J (QM rfl) rfl)
   have ho3:=kB ho kp ao;have lo:(dX old o2 F).length<=1:=by cases old<;>first|exact Nat.zero_le _|exact QR _
   refine xA (A4 (nk:=(aG c).length) g.tl.tl r3 ho3 (by exact ai 0x430432470000060050080011410c8007043043185000000040045 rfl hF)) fun o1' o2'=>?_
   have MY:∀e∈T,mt x was v e=(some e.1 != was && e.1 == e0.1):=fun e he=>by
    delta mt;refine J hc0<|fE ((x.of e.2 == x.of v)) (fun cc=>?_) fun cc=>?_
    ·refine J (uniq e he e0 m0 cc q0) ?_;simp
    ·have:e.1≠e0.1:=fun e3=>by have:=(fH i.nd he).symm.trans ((congrArg (T.lookup ·) e3).trans (fH i.nd m0));obtain e4:=Option.some.inj this;rw [e4,q0] at cc;exact nomatch cc
     refine J (show(e.1 == e0.1)=false from beq_eq_false_iff_ne.mpr this) ?_;simp
   have pre:∀r q,Ex (aG c).length P (s+(cU x.cols f).length+1+1) p3 r q->Ex (aG c).length P s p r q:=fun r q z=>h6 r q (ax g st (ax g.tl st2 z));by_cases hw:was=some e0.1
   ·have e2:∀e∈T,mt x was v e=false:=fun e he=>by
     refine J (MY e he)<|J hw ?_;by_cases c:e.1=e0.1
     ·refine J c ?_;simp
     ·simp[c]
    refine J (show T.any (mt x was v)=false from Gm e2)<|J (List.filter_eq_self.mpr fun e he=>by refine J (e2 e he) ?_;rfl) ?_;exact Cf.of sm.ch kp (fun r q z=>pre r q (o1' hw r q z)) (i7 i3 fun r q z=>z)
   ·have l0:=fH i.nd m0
    have e2:∀e∈T,mt x was v e=(e.1 == e0.1):=fun e he=>by
     refine J (MY e he) ?_;by_cases c:e.1=e0.1
     ·refine J c ?_;simp[Ne.symm hw]
     ·simp[c]
    (refine J (show T.any (mt x was v)=true from List.any_eq_true.mpr ⟨e0,m0,J (e2 e0 m0)<|beq_self_eq_true _⟩) ?_;refine J (show T.filter (fun e=> !mt x was v e)=eB T e0.1 from by refine J (bF e0.1 T i.nd)<|List.filter_congr fun e he=>by refine J (e2 e he) ?_;rfl) ?_)
    have gb:=g.tl.tl.right;refine fE (aY w) (fun er=>?_) fun er=>?_
    ·have eb:iC c w (o2+1) k F o2=.seek F o2::iF (aG c) (o2+1):=by delta iC;refine J er ?_;rfl
     rw [eb] at gb hF;rw [List.length_cons] at hF;obtain st3:=(km r3).1;obtain sm4:hW p3 (p3.atp 0 (.int e0.1)):=⟨rfl,rfl,rfl⟩
     refine bA (kt gb.tl (i3.same sm4) rfl l0 (fun j hj=>hA j (ai 0x1810c5000040185040002 rfl hj)) hR) fun p' q1 q2 q3 q4=>?_;delta Cf;refine J (QM (by refine J er ?_;rfl)) ?_;refine⟨p',kp.trans q1,q2,q3.trans sm.ch,fun r q z=>pre r q (o2' hw r q (ax gb (by(refine J st3<|J (i3.look _)<|J l0 ?_);rfl) (q4 r q ?_)))⟩;exact J (show s+(cU x.cols f).length+1+1+(dX old o2 F).length+1+(iF (aG c) (o2+1)).length=F by exact QF (ai 0x10c10c10c80070000060050090011492010c7043043185000000000040005 rfl hF) (ai 0x10c10c10c90080000070060050010890432010c10c7180000000005040005 rfl hF))<|z
    ·have eb:iC c w (o2+1) k F o2=bo w 45 k:=by delta iC;refine J er ?_;rfl
     rw [eb] at gb hF;obtain this:=gR w 45 k;exact Cf.of sm.ch kp (fun r q z=>pre r q (o2' hw r q z)) (pd i3 er gb ((kp 2 (a8 2 (by decide))).trans hn) (ai 0x2800c00412090010010c10ca1c00001801402400452070430431850000000c0046 rfl hF hk this))
end
theorem jf(c:fZ):eZ (aG c)<=9:=by obtain⟨a,p,m,d⟩:=c;cases p<;>cases m<;>simp[aG,eZ]
def bE(A:Nat->Prop)(R:Nat)(L:List (Ix×Option Nat)):Prop:=∀e∈L,∀f,e.2=some f->f<=1000000/\f+e.1.cols.length < R/\∀j,j<=e.1.cols.length->¬A (f+j)
def tw(L:List (Ix×Option Nat)):List Ix:=(L.map (·.1)).filter (·.uni)
theorem lT{key:Option Nat}(hk:bE A R ((x,key)::L))(hA:∀j,R<=j->¬A j)(hR:R<=1000000):(ge x key R).1<=1000000/\R<=(ge x key R).2/\(ge x key R).2<=R+x.cols.length+1/\(ge x key R).1+x.cols.length < (ge x key R).2/\∀j,j<=x.cols.length->¬A ((ge x key R).1+j):=by
 cases key with
 |none=>exact⟨hR,by exact lin 0x10c6140005000002 rfl _ _,Nat.le_refl _,by exact lin 0x10c6140006140000042 rfl _ _,fun j Y=>hA _ (Nat.le_add_right _ _)⟩
 |some f=>exact fp (hk _ (.head _) f rfl) fun h1 h2 h3=>⟨h1,Nat.le_refl _,by exact lin 0x10c6140005000002 rfl _ _,h2,h3⟩
theorem bE.up(h:bE A R L)(hr:R<=R'):bE A R' L:=fun e he f hf=>by
 exact fp (h e he f hf) fun h1 h2 h3=>⟨h1,Nat.lt_of_lt_of_le h2 hr,h3⟩
theorem Jm(T:Tb)(f g:Int×bz->Bool):(T.filter fun e=> !f e).filter (fun e=> !g e)=T.filter fun e=> !(f e || g e):=by exact J List.filter_filter<|List.filter_congr fun e Y=>by cases f e<;>cases g e<;>rfl
theorem uF:∀(L:List (Ix×Option Nat)) (R s:Nat) (p:PM) (T:Tb),(∀e∈L,e.1∈aG c)->aK P s (dC c w old k L R s).1->Inv c T p->(∀e∈L,e.1.uni=true->MP e.1 T)->iU p key v->p.rg 2=some (.int n)->(∀j,j < 8->A j)->rQ p old was->(∀o,old=some o->A o)->bE A R L->(∀j,R<=j->¬A j)->R+100*L.length<=900000->s+(dC c w old k L R s).1.length<=k->
  Cf c P s p w n A k (s+(dC c w old k L R s).1.length) 45 T (T.filter fun e=> !(tw L).any fun x=>mt x was v e) ((tw L).any fun x=>T.any (mt x was v))
 | [],R,s,p,T,hm,h,i,co,hr,hn,a8,ho,ao,hk,hA,hR,hks=>by have e1:T.filter (fun e=> !(tw []).any fun x=>mt x was v e)=T:=List.filter_eq_self.mpr fun Y Y=>rfl;exact J e1<|i7 i fun r q z=>z
 |(x,kf)::L,R,s,p,T,hm,h,i,co,hr,hn,a8,ho,ao,hk,hA,hR,hks=>by
  rw [List.length_cons] at hR
  cases hu:x.uni with
  |false=>
   have e1:(dC c w old k ((x,kf)::L) R s).1=(dC c w old k L R s).1:=by refine(?_ :(match x.uni with|false=>_|true=>_:List Op×Nat×List (Option Nat)).1=_);exact J hu rfl
   have e2:tw ((x,kf)::L)=tw L:=by delta tw;(exact J QV<|J (List.filter_cons_of_neg (by exact J hu<|Bool.false_ne_true)) rfl)
   rw [e1] at h hks ⊢;exact J e2<|uF L R s p T (fun e he=>hm e (.tail _ he)) h i (fun e he=>co e (.tail _ he)) hr hn a8 ho ao (fun e he=>hk e (.tail _ he)) hA (ai 0x36ee8040431800640450000400036ee804181901140040002 rfl hR) hks
  |true=>
   let kp:=ge x kf R;let m:=(cU x.cols kp.1).length+2+(dX old 0 0).length+(iC c w (kp.2+1) k 0 0).length;let code:=cU x.cols kp.1++(.noConfl x.cur (s+m) kp.1 x.cols.length::.idxRowid x.cur kp.2::(dX old kp.2 (s+m)++iC c w (kp.2+1) k (s+m) kp.2));let R2:=if aY w then kp.2+1+eZ (aG c) else kp.2+1
   have e1:(dC c w old k ((x,kf)::L) R s).1=code++(dC c w old k L R2 (s+m)).1:=by refine(?_ :(match x.uni with|false=>_|true=>_:List Op×Nat×List (Option Nat)).1=_);exact J hu rfl
   have lc:code.length=m:=by
    refine J QI<|J QK<|J QK<|J QI ?_;have l1:(dX old kp.2 (s+m)).length=(dX old 0 0).length:=by cases old<;>rfl
    have l2:(iC c w (kp.2+1) k (s+m) kp.2).length=(iC c w (kp.2+1) k 0 0).length:=by delta iC;cases aY w<;>rfl
    exact QF (ai 0x91c00422060010892020c50000010c10c7180000140080005 rfl l1 l2) (ai 0x72400451880011410c10c92000001401c6083140000080005 rfl l1 l2)
   have e2:tw ((x,kf)::L)=x::tw L:=by delta tw;(exact J QV<|J (List.filter_cons_of_pos (hu)) rfl)
   rw [e1] at h hks ⊢;refine J e2 ?_;rw [List.length_append,lc] at hks ⊢;have hx:=hm _ (.head _);obtain ox:=(cO c).1 x hx;obtain le:=ox.le;obtain r9:=jf c;refine ez (lT hk hA (ai 0xdbba01010c60019011400010000f4240105040002 rfl hR)) fun k1 k2 k3 k4 k5=>?_;obtain k2:R<=kp.2:=k2;obtain k3:=k3;have one:=Ga hx h.left (congrArg (s+ ·) lc.symm) i (co _ (.head _) hu) hr hn a8 ho ao k5 k1 (fun j hj=>hA j (ai 0x187001007140040185080003 rfl k2 hj)) (ai 0x432470001400402431800400832400400036ee804043200064047000040003d090041810c5000100005 rfl hR le r9 k3) (ai 0x72060050000401c6140040004 rfl hks);obtain hc2:aK P (s+m) (dC c w old k L R2 (s+m)).1:=by have:=h.right;rwa [lc] at this
   have hR2:R<=R2/\R2<=R+13:=by refine(?_ :R<=(if aY w then kp.2+1+eZ (aG c) else kp.2+1)/\(if aY w then kp.2+1+eZ (aG c) else kp.2+1)<=R+13);split<;>lia
   have next:∀{p1:PM},dM A p p1->Inv c (T.filter fun e=> !mt x was v e) p1->p1.ch=p.ch->(∀r q,Ex (aG c).length P (s+m) p1 r q->Ex (aG c).length P s p r q)->Cf c P (s+m) p1 w n A k (s+m+(dC c w old k L R2 (s+m)).1.length) 45 (T.filter fun e=> !mt x was v e) ((T.filter fun e=> !mt x was v e).filter fun e=> !(tw L).any fun x=>mt x was v e) ((tw L).any fun y=>(T.filter fun e=> !mt x was v e).any (mt y was v)):=fun{p1} kp1 i1 c1 st=>by exact uF L R2 (s+m) p1 _ (fun e he=>hm e (.tail _ he)) hc2 i1 (fun e he hu e1 h1 e2 h2=>co e (.tail _ he) hu e1 (List.mem_filter.mp h1).1 e2 (List.mem_filter.mp h2).1) (hr.keep a8 kp1) ((kp1 2 (a8 2 (by decide))).trans hn) a8 (kB ho kp1 ao) ao (bE.up (fun e he=>hk e (.tail _ he)) hR2.1) (fun j hj=>hA j (ai 0x187001007140040185080003 rfl hR2.1 hj)) (ai 0x3431c01400400036ee8040431800640470000400036ee804181901140080003 rfl hR hR2.2) (ai 0x81c6005000040207185000040004 rfl hks)
   obtain ef:(T.filter fun e=> !mt x was v e).filter (fun e=> !(tw L).any fun x=>mt x was v e)=T.filter fun e=> !(x::tw L).any fun x=>mt x was v e:=by refine J (Jm _ _ _) ?_;rfl
   refine aQ (Q4 _ _ _)<|aQ ef ?_;unfold Cf at one ⊢
   cases er:aY w with
   |true=>rw [if_pos (by refine J er ?_;rfl)] at one;refine J (QM (by rfl))<|bA one fun p1 g1 g2 g3 g4=>?_;have nx:=next g1 g2 g3 g4;unfold Cf at nx;rw [if_pos (by refine J er ?_;rfl)] at nx;exact bA nx fun p2 d1 d2 d3 d4=>⟨p2,g1.trans d1,d2,d3.trans g3,fun r q z=>g4 r q (d4 r q z)⟩
   |false=>
    refine fE (T.any (mt x was v)) (fun eb=>?_) fun eb=>?_
    ·rw [if_neg (by(refine J er<|J eb ?_);decide)] at one;refine J (QN (by(refine J List.any_cons<|J eb ?_);simp)) ?_;exact one
    ·rw [if_pos (by refine J eb ?_;simp)] at one;refine bA one fun p1 g1 g2 g3 g4=>?_;have eT:T.filter (fun e=> !mt x was v e)=T:=List.filter_eq_self.mpr fun e he=>by obtain this:=List.any_eq_false.mp eb e he;simpa using this
     have nx:=next g1 g2 g3 g4;rw [eT] at nx g2 ⊢;delta Cf at nx;rw [er] at nx;refine J List.any_cons<|J eb<|J (Bool.false_or _) ?_;by_cases c1:(false || !(tw L).any fun y=>T.any (mt y was v))=true
     ·rw [if_pos c1] at nx;exact J (QM (by simpa using c1))<|bA nx fun p2 d1 d2 d3 d4=>⟨p2,g1.trans d1,d2,d3.trans g3,fun r q z=>g4 r q (d4 r q z)⟩
     ·rw [if_neg c1] at nx;refine J (QN (by simpa using c1)) ?_;by_cases c2:bX w=true
      ·rw [if_pos c2] at nx ⊢;exact bA nx fun p2 d1 d2 d3 d4=>⟨p2,g1.trans d1,d2,d3.trans g3,fun r q z=>g4 r q (d4 r q z)⟩
      ·rw [if_neg c2] at nx ⊢;exact bP nx fun p2 d1 d2 d3=>⟨p2,d1,d2.trans g3,g4 _ _ d3⟩
section
variable{w:cq}{T:Tb}{old:Option Nat}
theorem ls{L:List (Ix×Option Nat)}{f:Nat}{ks:List (Option Nat)}{xs:List Ix}(h1:f<=1000000)(h2:f+x.cols.length < R)(h3:∀j,j<=x.cols.length->¬A (f+j))(h:bE A R (xs.zip ks)):bE A R ((x::xs).zip (some f::ks)):=fun e he g hg=>by
 refine Or.elim (List.mem_cons.mp he) (fun ρ=>?_) fun he=>?_
 ·subst ρ;exact bt hg<|⟨h1,h2,h3⟩
 ·exact h e he g hg
theorem qB:∀(L:List (Ix×Option Nat)) (R s:Nat),(∀e∈L,e.1∈aG c)->bE A R L->(∀j,R<=j->¬A j)->R+100*L.length<=900000->
  R<=(dC c w old k L R s).2.1/\(dC c w old k L R s).2.1<=R+13*L.length/\(dC c w old k L R s).2.2.length=L.length/\bE A (dC c w old k L R s).2.1 ((L.map (·.1)).zip (dC c w old k L R s).2.2)
 | [],R,s,hm,hk,hA,hR=>⟨QR _,Nat.le_refl _,rfl,fun Y h=>nomatch h⟩
 |(x,kf)::L,R,s,hm,hk,hA,hR=>by
  rw [List.length_cons] at hR;refine fE x.uni (fun hu=>?_) fun hu=>?_
  ·let kp:=ge x kf R;let m:=(cU x.cols kp.1).length+2+(dX old 0 0).length+(iC c w (kp.2+1) k 0 0).length;let R2:=if aY w then kp.2+1+eZ (aG c) else kp.2+1
   have e1:(dC c w old k ((x,kf)::L) R s).2=((dC c w old k L R2 (s+m)).2.1,some kp.1::(dC c w old k L R2 (s+m)).2.2):=by refine(?_ :(match x.uni with|false=>_|true=>_:List Op×Nat×List (Option Nat)).2=_);exact J hu rfl
   refine J e1 ?_;have le:=((cO c).1 x (hm _ (.head _))).le;have r9:=jf c;refine ez (lT hk hA (ai 0xdbba01010c60019011400010000f4240105040002 rfl hR)) fun k1 k2 k3 k4 k5=>?_;have k2:=k2;have k3:=k3;have hR2:kp.2<=R2/\R2<=R+13:=by refine(?_ :kp.2<=(if aY w then kp.2+1+eZ (aG c) else kp.2+1)/\(if aY w then kp.2+1+eZ (aG c) else kp.2+1)<=R+13);split<;>lia
   refine fi (qB L R2 (s+m) (fun e he=>hm e (.tail _ he)) (bE.up (fun e he=>hk e (.tail _ he)) (QQ k2 hR2.1)) (fun j hj=>hA j (ai 0x62000402070010071400401850c0004 rfl k2 hR2.1 hj)) (ai 0x3431c01400400036ee8040431800640470000400036ee804181901140080003 rfl hR hR2.2)) fun h1 h2 h3 h4=>⟨by exact ai 0x62000402070010071400401850c0004 rfl k2 hR2.1 h1,by refine J QK<|(?_ :(dC c w old k L R2 (s+m)).2.1<=_);exact ai 0x1c03412001400403431802000400431c000d046005080004 rfl hR2.2 h2,congrArg Nat.succ h3,ls (L:=L) k1 (by have:kp.1+x.cols.length < kp.2:=k4;refine(?_ :kp.1+x.cols.length < (dC c w old k L R2 (s+m)).2.1);exact ai 0x81850000411c90010092000401c61400c0045 rfl hR2.1 h1 this) k5 h4⟩
  ·obtain e1:(dC c w old k ((x,kf)::L) R s).2=((dC c w old k L R s).2.1,kf::(dC c w old k L R s).2.2):=by refine(?_ :(match x.uni with|false=>_|true=>_:List Op×Nat×List (Option Nat)).2=_);exact J hu rfl
   refine J e1<|fi (qB L R s (fun e he=>hm e (.tail _ he)) (fun e he=>hk e (.tail _ he)) hA (ai 0x36ee8040431800640450000400036ee804181901140040002 rfl hR)) fun h1 h2 h3 h4=>⟨h1,by refine J QK<|(?_ :(dC c w old k L R s).2.1<=_);exact ai 0x1c03411801400400431c000d046005040003 rfl h2,congrArg Nat.succ h3,fun e he f hf=>?_⟩
   refine Or.elim (List.mem_cons.mp he) (fun ρ=>?_) fun he=>?_
   ·subst ρ;exact fp (hk _ (.head _) f hf) fun g1 g2 g3=>⟨g1,Nat.lt_of_lt_of_le g2 h1,g3⟩
   ·exact h4 e he f hf
theorem vU(rec:Nat):∀(L:List (Ix×Option Nat)) (R:Nat),(∀e∈L,e.1∈aG c)->bE A R L->(∀j,R<=j->¬A j)->R+100*L.length<=900000->
  R<=(gK rec L R).2.1/\(gK rec L R).2.1<=R+13*L.length/\(gK rec L R).2.2.length=L.length/\bE A (gK rec L R).2.1 ((L.map (·.1)).zip (gK rec L R).2.2)
 | [],R,hm,hk,hA,hR=>⟨QR _,Nat.le_refl _,rfl,fun Y h=>nomatch h⟩
 |(x,kf)::L,R,hm,hk,hA,hR=>by obtain hR:=QK▸hR;have le:=((cO c).1 x (hm _ (.head _))).le;refine ez (lT hk hA (ai 0xdbba01010c60019011400010000f4240105040002 rfl hR)) fun k1 k2 k3 k4 k5=>fi (vU rec L (ge x kf R).2 (fun e he=>hm e (.tail _ he)) (bE.up (fun e he=>hk e (.tail _ he)) k2) (fun j hj=>hA j (ai 0x187001007140040185080003 rfl k2 hj)) (ai 0x432070001400400832000400036ee8040431800640470000400036ee8041819011400c0004 rfl hR le k3)) fun h1 h2 h3 h4=>⟨by exact ai 0x187001007140040185080003 rfl k2 h1,by refine J QK<|(?_ :(gK rec L (ge x kf R).2).2.1<=_);exact ai 0x1c03412401400400432060002400400832000400431c000d0460050c0005 rfl le k3 h2,congrArg Nat.succ h3,ls (L:=L) k1 (by exact ai 0x1c80010081850000411c6140080044 rfl k4 h1) k5 h4⟩
theorem uV(hrec:¬A rec):∀(L:List (Ix×Option Nat)) (R s:Nat) (p:PM),(∀e∈L,e.1∈aG c)->(L.map (·.1.cur)).Nodup->aK P s (gK rec L R).1->iU p key v->(∀j,j < 8->A j)->bE A R L->(∀j,R<=j->¬A j)->R+100*L.length<=900000->
  ∃p',dM A p p'/\p'.rows=p.rows/\p'.ch=p.ch/\(∀e∈L,p'.ks e.1.cur=p.ks e.1.cur++ [bc e.1 key v])/\(∀cu,(∀e∈L,e.1.cur≠cu)->p'.ks cu=p.ks cu)/\∀r q,Ex (aG c).length P (s+(gK rec L R).1.length) p' r q->Ex (aG c).length P s p r q
 | [],R,s,p,hm,nd,h,hr,a8,hk,hA,hR=>⟨p,.refl,rfl,rfl,fun Y h=>(nomatch h),fun Y Y=>rfl,fun r q z=>z⟩
 |(x,kf)::L,R,s,p,hm,nd,h,hr,a8,hk,hA,hR=>by
  rw [List.length_cons] at hR;rw [List.map_cons,List.nodup_cons] at nd;have ox:=(cO c).1 x (hm _ (.head _));have le:=ox.le;refine ez (lT hk hA (ai 0xdbba01010c60019011400010000f4240105040002 rfl hR)) fun k1 k2 k3 k4 k5=>?_;have h:=h;refine gk (uT (nk:=(aG c).length) a8 x.cols (ge x kf R).1 s p ox.co h.left hr k5) fun p1 h1 h2 Y h4 h5 h6=>xA (nj h4 h5) fun Y ev=>?_;have g:=h.right;let p2:=p1.put rec (aV (bc x key v));obtain st1:i9 (aG c).length (.makeRec (ge x kf R).1 (x.cols.length+1) rec) p1=some (.next,p2):=by refine(?_ :(if x.cols.length+1<=1000/\(ge x kf R).1<=1000000 then some (fY.next,p1.put rec (.tup (p1.vals (ge x kf R).1 (x.cols.length+1)))) else none)=_);(refine J (QM ⟨ai 0x8314004000000fa04043140040001 rfl le,k1⟩)<|J ev ?_);rfl
  let p3:=p2.kp x.cur (p2.ks x.cur++ [bc x key v])
  obtain st2:i9 (aG c).length (.idxInsert x.cur rec) p2=some (.next,p3):=by
   refine(?_ :(if 1<=x.cur/\x.cur<=(aG c).length then match(if rec=rec then some (aV (bc x key v)) else p1.rg rec) with
    |some (.tup ys)=>(hY ys).map fun xs=>(fY.next,p2.kp x.cur (p2.ks x.cur++ [xs]))
    |_=>none else none)=_)
   refine J (QM ⟨ox.c1,ox.c2⟩)<|J (QM rfl) ?_;refine(?_ :(hY ((bc x key v).map ov)).map _=_);refine J (mH _) ?_;rfl
  have kp:dM A p p3:=h2.trans (dM.put _ hrec);have ne:∀e∈L,e.1.cur≠x.cur:=fun e he e2=>nd.1 (aQ e2<|List.mem_map.mpr ⟨e,he,rfl⟩);have ksx:∀cu,p3.ks cu=if cu=x.cur then p.ks x.cur++ [bc x key v] else p.ks cu:=fun cu=>by refine(?_ :(if cu=x.cur then p1.ks x.cur++ [bc x key v] else p1.ks cu)=_);exact J h1.ks rfl
  refine gk (uV hrec L (ge x kf R).2 (s+(cU x.cols (ge x kf R).1).length+1+1) p3 (fun e he=>hm e (.tail _ he)) nd.2 g.tl.tl (hr.keep a8 kp) a8 (bE.up (fun e he=>hk e (.tail _ he)) k2) (fun j hj=>hA j (ai 0x187001007140040185080003 rfl k2 hj)) (ai 0x432070001400400832000400036ee8040431800640470000400036ee8041819011400c0004 rfl hR le k3)) fun p' q1 q2 q3 q4 q5 q6=>⟨p',kp.trans q1,q2.trans h1.rows,q3.trans h1.ch,fun e he=>?_,fun cu hcu=>?_,fun r q z=>h6 r q (ax g st1 (ax g.tl st2 (q6 r q ?_)))⟩
  ·refine Or.elim (List.mem_cons.mp he) (fun ρ=>?_) fun he=>?_
   ·refine J ρ ?_;(exact J (q5 _ ne)<|J (ksx _)<|J (QM rfl) rfl)
   ·exact J (q4 e he)<|J (ksx _)<|J (QN (ne e he)) rfl
  ·exact J (q5 cu fun e he=>hcu e (.tail _ he))<|J (ksx _)<|J (QN fun e=>hcu _ (.head _) e.symm) rfl
  ·obtain this:s+(gK rec ((x,kf)::L) R).1.length=s+(cU x.cols (ge x kf R).1).length+1+1+(gK rec L (ge x kf R).2).1.length:=by
    (refine J QI<|J QK<|J QK ?_);exact QF (lin 0x1c10c10c61400000010c10c7000180140000003 rfl _ _ _) (lin 0x430431c0006005007043043185000000000003 rfl _ _ _)
   exact aQ this<|z
theorem ms(k:Int)(v:V):∀rows:List (Int×V),k ∉ rows.map (·.1)->lJ rows k v=rows++ [(k,v)]
 | [],_=>rfl
 |(j,u)::rows,h=>by rw [List.map_cons,List.mem_cons] at h;refine(?_ :(if j=k then(j,v)::rows else(j,u)::lJ rows k v)=_);(refine J (QN fun e=>h (.inl e.symm))<|J (ms k v rows fun e=>h (.inr e)) ?_);rfl
theorem AK(h:aK P s (ly c last st).1)(i:Inv c T p)(nk:key ∉ T.map (·.1))(hr:iU p key v)(hn:p.rg 2=some (.int n))(hl:st.keys.length=(aG c).length)(a8:∀j,j < 8->A j)(hk:bE A st.R ((aG c).zip st.keys))(hA:∀j,st.R<=j->¬A j)(hR:st.R+400<=900000):
  ∃p',(∀j,A j->j≠2->p'.rg j=p.rg j)/\p'.rg 2=some (.int (n+1))/\Inv c (T++ [(key,v)]) p'/\p'.ch=p.ch/\∀r q,Ex (aG c).length P (s+(ly c last st).1.length) p' r q->Ex (aG c).length P s p r q:=by
 refine fi (cO c) fun Y nc l3 l1=>?_;obtain zl:((aG c).zip st.keys).length=(aG c).length:=by(exact J List.length_zip<|J hl<|J (Nat.min_self _) rfl)
 have zm:((aG c).zip st.keys).map (·.1)=aG c:=List.map_fst_zip (J hl<|QR _);have hm:∀e∈(aG c).zip st.keys,e.1∈aG c:=fun e he=>(List.of_mem_zip he).1
 obtain nd:(((aG c).zip st.keys).map (·.1.cur)).Nodup:=by
  have:((aG c).zip st.keys).map (·.1.cur)=(aG c).map (·.cur):=by(refine aQ zm<|J QZ ?_);refine J zm ?_;rfl
  exact J this<|nc
 have h:=h;refine gk (uV (hA _ (QR _)) _ (st.R+1) s p hm nd h.left hr a8 (hk.up (Nat.le_succ _)) (fun j hj=>hA j (ai 0x1810c5000040185040002 rfl hj)) (J zl<|ai 0xc31819000036ee8040000064041400010000dbba01060640410c5000080002 rfl hR l3)) fun p1 q1 q2 q3 q4 q5 q6=>?_;have g:=h.right;have r1:=hr.keep a8 q1;let p2:=p1.put st.R (aH v);obtain ev:p1.vals 4 4= [ov v.1,ov v.2.1,ov v.2.2.1,ov v.2.2.2]:=by refine(?_ : [p1.reg 4,p1.reg 5,p1.reg 6,p1.reg 7]=_);(refine J (show p1.reg 4=_ from r1.v 0 (by decide))<|J (show p1.reg 5=_ from r1.v 1 (by decide))<|J (show p1.reg 6=_ from r1.v 2 (by decide))<|J (show p1.reg 7=_ from r1.v 3 (by decide)) ?_);rfl
 obtain st1:i9 (aG c).length (.makeRec 4 4 st.R) p1=some (.next,p2):=by refine(?_ :some (fY.next,p1.put st.R (.tup (p1.vals 4 4)))=_);refine J ev ?_;rfl
 have nA:=hA _ (QR _);obtain s3:st.R≠3:=fun e=>nA (e▸a8 3 (by decide));obtain s2:st.R≠2:=fun e=>nA (e▸a8 2 (by decide));obtain nkT:key ∉ p.rows.map (·.1):=by(refine J i.rows<|J QZ ?_);exact nk
 let p3:PM:={p2 with rows:=p.rows++ [(key,aH v)]}
 obtain st2:i9 (aG c).length (.insert st.R 3 last) p2=some (.next,p3):=by
  refine(?_ :(match(if st.R=st.R then some (aH v) else p1.rg st.R),(if 3=st.R then some (aH v) else p1.rg 3) with
   |some (.tup ys),some (.int i)=>some (fY.next,{p2 with rows:=lJ p1.rows i (.tup ys)})
   |_,_=>none)=_)
  refine J (QM rfl)<|J (QN s3.symm)<|J r1.k<|J q2 ?_;refine(?_ :some (fY.next,{p2 with rows:=lJ p.rows key (aH v)})=_);exact J (ms key _ _ nkT) rfl
 let p4:=p3.put 2 (.int (n+1))
 obtain st3:i9 (aG c).length (.addInt 2) p3=some (.next,p4):=by
  refine(?_ :(match(if 2=st.R then some (aH v) else p1.rg 2) with
   |some (.int i)=>some (fY.next,p3.put 2 (.int (i+1)))
   |_=>none)=_)
  exact J (QN s2.symm)<|J (q1 2 (a8 2 (by decide)))<|J hn rfl
 refine⟨p4,fun j hj hj2=>?_,rfl,⟨?_,fun x hx=>?_,?_⟩,q3,fun r q z=>q6 r q (ax g st1 (ax g.tl st2 (ax g.tl.tl st3 ?_)))⟩
 ·refine(?_ :(if j=2 then _ else if j=st.R then _ else p1.rg j)=_);exact J (QN hj2)<|J (QN fun e:j=st.R=>nA (e▸hj))<|J (q1 j hj) rfl
 ·refine(?_ :p.rows++ [(key,aH v)]=_);(refine J i.rows<|J List.map_append ?_);rfl
 ·obtain⟨kf,he⟩:∃kf,(x,kf)∈(aG c).zip st.keys:=by
   rw [<-zm] at hx;exact an (List.mem_map.mp hx) fun e he ρ=>aQ ρ<|⟨e.2,he⟩
  refine J (q4 _ he)<|J List.map_append ?_;exact(i.ks x hx).append_right _
 ·refine J List.map_append<|jj List.nodup_append ?_;exact⟨i.nd,by simp,fun y hy z hz e=>by cases List.mem_singleton.mp hz;exact nk (by obtain e:y=key:=e;exact aQ e<|hy)⟩
 ·obtain this:s+(ly c last st).1.length=s+(gK st.R ((aG c).zip st.keys) (st.R+1)).1.length+1+1+1:=by
   refine J QI ?_;rfl
  exact aQ this<|z
end
section
variable{T:Tb}
noncomputable def oj(c:fZ):List Ix:=(aG c).filter (·.uni)
noncomputable def lu(w:cq)(kind:Nat):Option Nat:=if bX w then none else some kind
noncomputable def d6(c:fZ)(w:cq)(T:Tb)(was:Option Int)(key:Int)(v:bz):Except (Option Nat) (Tb×bz):=
 match dG c w v with
 |.error e=>.error e
 |.ok v1=>match gm w v1 with
  |.error e=>.error e
  |.ok v2=>
   if aY w || !T.any (i8 key was) then
    let T1:=T.filter fun e=> !i8 key was e
    if aY w || !(oj c).any (fun x=>T1.any (mt x was v2)) then .ok (T1.filter fun e=> !(oj c).any fun x=>mt x was v2 e,v2)
    else .error (lu w 45)
   else .error (lu w 43)
def M7(c:fZ)(P:List Op)(s:Nat)(p:PM)(w:cq)(n key:Int)(A:Nat->Prop)(k e:Nat)(T:Tb):Except (Option Nat) (Tb×bz)->Prop
 |.ok (T2,v2)=>∃p',(∀j,A j->j≠6->p'.rg j=p.rg j)/\Inv c T2 p'/\iU p' key v2/\p'.ch=p.ch/\∀r q,Ex (aG c).length P e p' r q->Ex (aG c).length P s p r q
 |.error none=>∃p',(∀j,A j->j≠6->p'.rg j=p.rg j)/\Inv c T p'/\p'.ch=p.ch/\∀r q,Ex (aG c).length P k p' r q->Ex (aG c).length P s p r q
 |.error (some kind)=>∃p',Inv c T p'/\p'.ch=p.ch/\Ex (aG c).length P s p (vi (jM w),.lit kind) (AX w n p')
theorem zF(hb:¬(aY w || !b)=true)(h:Cf c P s2 p1 w n A k e kind T T' b)(c1:p1.ch=p.ch)(k1:∀j,A j->j≠6->p1.rg j=p.rg j)(st:∀r q,Ex (aG c).length P s2 p1 r q->Ex (aG c).length P s p r q):M7 c P s p w n key A k e2 T (.error (lu w kind)):=by
 delta Cf at h;rw [if_neg hb] at h;delta lu;by_cases ei:bX w=true
 ·rw [if_pos ei] at h ⊢;exact bA h fun p' h1 h2 h3 h4=>⟨p',fun j a ne=>(h1 j a).trans (k1 j a ne),h2,h3.trans c1,fun r q z=>st r q (h4 r q z)⟩
 ·rw [if_neg ei] at h ⊢;exact bP h fun p' h1 h2 h3=>⟨p',h1,h2.trans c1,st _ _ h3⟩
theorem sr(h:aK P s (c8 c w old isNew st s k).1)(i:Inv c T p)(co:∀x∈oj c,MP x T)(hr:iU p key v)(hz:p.rg 1=some (.int 0))(hn:p.rg 2=some (.int n))(hnew:isNew=true->key ∉ T.map (·.1))(hl:st.keys.length=(aG c).length)(a8:∀j,j < 8->A j)(ho:rQ p old was)(ao:∀o,old=some o->A o)(o6:old≠some 6)(hk:bE A st.R ((aG c).zip st.keys))(hA:∀j,st.R<=j->¬A j)(hR:st.R+500<=900000)(hks:s+(c8 c w old isNew st s k).1.length<=k):
  M7 c P s p w n key A k (s+(c8 c w old isNew st s k).1.length) T (d6 c w T was key v):=by
 refine fi (cO c) fun Y nc l3 l1=>?_;obtain zl:((aG c).zip st.keys).length=(aG c).length:=by(exact J List.length_zip<|J hl<|J (Nat.min_self _) rfl)
 obtain zm:((aG c).zip st.keys).map (·.1)=aG c:=List.map_fst_zip (J hl<|QR _);have hm:∀e∈(aG c).zip st.keys,e.1∈aG c:=fun e he=>(List.of_mem_zip he).1;obtain eus:tw ((aG c).zip st.keys)=oj c:=by delta tw oj;exact J zm rfl
 let nC:=c7 c w s k;let tC:=eE w (s+nC.length) k;let s2:=s+nC.length+tC.length;let rC:=if isNew then [] else fj c w old st.R s2 k
 let R2:=if isNew then st.R else ur c w st.R
 let uC:=(dC c w old k ((aG c).zip st.keys) R2 (s2+rC.length)).1;have h:aK P s (nC++(tC++(rC++uC))):=h;have hlen:s+(c8 c w old isNew st s k).1.length=s2+rC.length+uC.length:=by refine(?_ :s+(nC++(tC++(rC++uC))).length=s+nC.length+tC.length+rC.length+uC.length);(refine J QI<|J QI<|J QI ?_);exact QF (lin 0x2481c61400000092001c0180140000005 rfl _ _ _ _ _) (lin 0x248007006005009207185000000000005 rfl _ _ _ _ _)
 rw [hlen] at hks ⊢;obtain hks:=hks;have hnull:=zJ (nk:=(aG c).length) h.left hr hn (show s+nC.length<=k by lia);delta d6
 cases e1:dG c w v with
 |error e=>
  rw [e1] at hnull
  cases e with
  |none=>refine bP hnull fun p' g1 g2 g3=>?_;exact⟨p',fun j Y ne=>g2 j ne,i.same g1.same,g1.ch,g3⟩
  |some kd=>refine an hnull fun p' g1 g2=>?_;exact⟨p',i.same g1.same,g1.ch,g2⟩
 |ok v1=>
  obtain hnull:=e1▸hnull;refine bA hnull fun p1 g1 g2 g3 g4=>?_;have hterm:=Ak (nk:=(aG c).length) h.right.left g3 ((g2 2 (fun e=>lin 0x60c20c0045003003043180 rfl e)).trans hn) ((g2 1 (fun e=>lin 0x60c10c0045003003044180 rfl e)).trans hz) (show s+nC.length+tC.length<=k by lia);refine(?_ :M7 c P s p w n key A k _ T (match gm w v1 with|.error e=>.error e|.ok v2=>_));refine qX (gm w v1) (fun e e2=>?_) fun v2 e2=>?_
  ·rw [e2] at hterm
   cases e with
   |none=>refine bP hterm fun p' d1 d2 d3=>?_;exact⟨p',fun j Y ne=>(d2 j ne).trans (g2 j ne),i.same (g1.trans d1).same,(g1.trans d1).ch,fun r q z=>g4 r q (d3 r q z)⟩
   |some kd=>refine an hterm fun p' d1 d2=>?_;exact⟨p',i.same (g1.trans d1).same,(g1.trans d1).ch,g4 _ _ d2⟩
  ·obtain hterm:=e2▸hterm;refine bA hterm fun p2 d1 d2 d3 d4=>?_;have i2:=i.same (g1.trans d1).same;have c2:=(g1.trans d1).ch;have k2:∀j,j≠6->p2.rg j=p.rg j:=fun j ne=>(d2 j ne).trans (g2 j ne);have n2:=(k2 2 (fun e=>lin 0x60c20c0045003003043180 rfl e)).trans hn
   have ho2:rQ p2 old was:=by
    cases old with
    |none=>cases was<;>exact ho
    |some o=>cases was with
     |none=>exact ho
     |some u=>exact(k2 o (fun e=>o6 (J e rfl))).trans ho
   have st2:∀r q,Ex (aG c).length P s2 p2 r q->Ex (aG c).length P s p r q:=fun r q z=>g4 r q (d4 r q z);have hcode:aK P s2 (rC++uC):=h.right.right
   have rowid:Cf c P s2 p2 w n A k (s2+rC.length) 43 T (T.filter fun e=> !i8 key was e) (T.any (i8 key was)):=by
    cases en:isNew with
    |true=>
     have nn:∀e∈T,i8 key was e=false:=fun e he=>by have:e.1≠key:=fun e2=>hnew en (e2▸List.mem_map.mpr ⟨e,he,rfl⟩);delta i8;refine J (beq_eq_false_iff_ne.mpr this) ?_;rfl
     refine J (Gm nn)<|J (List.filter_eq_self.mpr fun e he=>by refine J (nn e he) ?_;rfl) ?_;have e0:rC= []:=by refine(?_ :(if isNew then [] else _)=_);refine J en ?_;rfl
     exact J e0<|i7 i2 fun r q z=>z
    |false=>
     have e0:rC=fj c w old st.R s2 k:=by refine(?_ :(if isNew then [] else _)=_);refine J en ?_;rfl
     have r9:=jf c;have hc:=hcode.left;rw [e0] at hc ⊢;exact zK hc i2 d3 n2 a8 ho2 hA (ai 0x2431800400036ee804000007d041400010000f4240106140080002 rfl hR r9) (by refine aQ e0<|(?_ :s+nC.length+tC.length+rC.length<=k);lia)
   have hR2:st.R<=R2/\R2<=st.R+9:=by
    have r9:=jf c;refine(?_ :st.R<=(if isNew then st.R else if aY w then st.R+eZ (aG c) else st.R)/\(if isNew then st.R else if aY w then st.R+eZ (aG c) else st.R)<=_);split
    ·exact⟨lin 0x145000001 rfl _,lin 0x90c5005000001 rfl _⟩
    ·split<;>lia
   let T1:=T.filter fun e=> !i8 key was e;obtain uniq:∀{p3:PM},dM A p2 p3->Inv c T1 p3->Cf c P (s2+rC.length) p3 w n A k (s2+rC.length+uC.length) 45 T1 (T1.filter fun e=> !(oj c).any fun x=>mt x was v2 e) ((oj c).any fun x=>T1.any (mt x was v2)):=fun{p3} kp i3=>by have:=uF ((aG c).zip st.keys) R2 (s2+rC.length) p3 T1 hm hcode.right i3 (fun e he hu e1 h1 e2 h2=>co e.1 (List.mem_filter.mpr ⟨hm e he,hu⟩) e1 (List.mem_filter.mp h1).1 e2 (List.mem_filter.mp h2).1) (d3.keep a8 kp) ((kp 2 (a8 2 (by decide))).trans n2) a8 (kB ho2 kp ao) ao (hk.up hR2.1) (fun j hj=>hA j (ai 0x187001007140040185080003 rfl hR2.1 hj)) (J zl<|ai 0x90c70050010030c60640000dbba01000001f41070000400036ee8041819011400c0003 rfl hR l3 hR2.2) (show s+nC.length+tC.length+rC.length+uC.length<=k from hks);rwa [eus] at this
   refine(?_ :M7 c P s p w n key A k _ T (if aY w || !T.any (i8 key was) then(if aY w || !(oj c).any (fun x=>T1.any (mt x was v2)) then .ok (T1.filter fun e=> !(oj c).any fun x=>mt x was v2 e,v2) else .error (lu w 45)) else .error (lu w 43)));by_cases b1:(aY w || !T.any (i8 key was))=true
   ·refine J (QM b1) ?_;delta Cf at rowid;rw [if_pos b1] at rowid;refine bA rowid fun p3 f1 f2 f3 f4=>?_;have un:=uniq f1 f2;have k3:∀j,A j->j≠6->p3.rg j=p.rg j:=fun j a ne=>(f1 j a).trans (k2 j ne);have st3:∀r q,Ex (aG c).length P (s2+rC.length) p3 r q->Ex (aG c).length P s p r q:=fun r q z=>st2 r q (f4 r q z);by_cases b2:(aY w || !(oj c).any (fun x=>T1.any (mt x was v2)))=true
    ·refine J (QM b2) ?_;unfold Cf at un;rw [if_pos b2] at un;exact bA un fun p4 z1 z2 z3 z4=>⟨p4,fun j a ne=>(z1 j a).trans (k3 j a ne),z2,(d3.keep a8 f1).keep a8 z1,z3.trans (f3.trans c2),fun r q z=>st3 r q (z4 r q z)⟩
    ·refine J (QN b2) ?_;obtain er:aY w=false:=by cases e:aY w<;>simp_all
     obtain eT:T1=T:=List.filter_eq_self.mpr fun e he=>by
      have:T.any (i8 key was)=false:=by simpa [er] using b1
      obtain this:=List.any_eq_false.mp this e he;simpa using this
     rw [eT] at un b2;exact zF b2 un (f3.trans c2) k3 st3
   ·exact J (QN b1)<|zF b1 rowid c2 (fun j a ne=>k2 j ne) st2
end
section
variable{s k kind R:Nat}{w:cq}{T:Tb}{old:Option Nat}
theorem pw(hl:st.keys.length=(aG c).length)(hk:bE A st.R ((aG c).zip st.keys))(hA:∀j,st.R<=j->¬A j)(hR:st.R+500<=900000):
  st.R<=(c8 c w old isNew st s k).2.R/\(c8 c w old isNew st s k).2.R<=st.R+60/\(c8 c w old isNew st s k).2.keys.length=(aG c).length/\bE A (c8 c w old isNew st s k).2.R ((aG c).zip (c8 c w old isNew st s k).2.keys):=by
 refine fi (cO c) fun Y nc l3 l1=>?_;have zl:((aG c).zip st.keys).length=(aG c).length:=by(exact J List.length_zip<|J hl<|J (Nat.min_self _) rfl)
 obtain zm:((aG c).zip st.keys).map (·.1)=aG c:=List.map_fst_zip (J hl<|QR _);obtain hm:∀e∈(aG c).zip st.keys,e.1∈aG c:=fun e he=>(List.of_mem_zip he).1;let R2:=if isNew then st.R else ur c w st.R
 have hR2:st.R<=R2/\R2<=st.R+9:=by
  have r9:=jf c;refine(?_ :st.R<=(if isNew then st.R else if aY w then st.R+eZ (aG c) else st.R)/\(if isNew then st.R else if aY w then st.R+eZ (aG c) else st.R)<=_);split
  ·exact⟨lin 0x145000001 rfl _,lin 0x90c5005000001 rfl _⟩
  ·split<;>lia
 let s3:=s+(c7 c w s k).length+(eE w (s+(c7 c w s k).length) k).length+(if isNew then [] else fj c w old st.R (s+(c7 c w s k).length+(eE w (s+(c7 c w s k).length) k).length) k).length;refine fi (qB (w:=w) (old:=old) (k:=k) ((aG c).zip st.keys) R2 s3 hm (hk.up hR2.1) (fun j hj=>hA j (ai 0x187001007140040185080003 rfl hR2.1 hj)) (J zl<|ai 0x90c70050010030c60640000dbba01000001f41070000400036ee8041819011400c0003 rfl hR l3 hR2.2)) fun h1 h2 h3 h4=>?_;rw [zl] at h2 h3;rw [zm] at h4;exact⟨by exact ai 0x187001007140040185080003 rfl hR2.1 h1,by exact ai 0x700d0480050010090c60080010030c700d03c0c60050c0004 rfl l3 hR2.2 h2,h3,h4⟩
theorem wq(hl:st.keys.length=(aG c).length)(hk:bE A st.R ((aG c).zip st.keys))(hA:∀j,st.R<=j->¬A j)(hR:st.R+500<=900000):
  st.R<=(ly c last st).2.R/\(ly c last st).2.R<=st.R+60/\(ly c last st).2.keys.length=(aG c).length/\bE A (ly c last st).2.R ((aG c).zip (ly c last st).2.keys):=by
 refine fi (cO c) fun Y nc l3 l1=>?_;have zl:((aG c).zip st.keys).length=(aG c).length:=by(exact J List.length_zip<|J hl<|J (Nat.min_self _) rfl)
 have zm:((aG c).zip st.keys).map (·.1)=aG c:=List.map_fst_zip (J hl<|QR _);obtain hm:∀e∈(aG c).zip st.keys,e.1∈aG c:=fun e he=>(List.of_mem_zip he).1;refine fi (vU st.R ((aG c).zip st.keys) (st.R+1) hm (hk.up (Nat.le_succ _)) (fun j hj=>hA j (ai 0x1810c5000040185040002 rfl hj)) (J zl<|ai 0xc31819000036ee804000007d041400010000dbba01060640410c5000080002 rfl hR l3)) fun h1 h2 h3 h4=>?_;rw [zl] at h2 h3;rw [zm] at h4;exact⟨by exact ai 0x1810c5000040185040002 rfl h1,by exact ai 0x1c03410431800050010030c700d03c0c6005080003 rfl l3 h2,h3,h4⟩
noncomputable def fU(T:Tb):Int:=(T.map (·.1)).foldl max 0+1
noncomputable def a_(c:fZ)(T:Tb)(v:bz):Int:=match c.keyed,v.1 with
 |true,some a=>a
 |_,_=>fU T
noncomputable def bN(c:fZ)(T:Tb)(v:bz):bz:=(if c.keyed then some (a_ c T v) else v.1,v.2)
theorem Hw(l:List Int):∀(a:Int),a<=l.foldl max a/\∀x∈l,x<=l.foldl max a:=by
 induction l with
 |nil=>exact fun a=>⟨Int.le_refl _,fun Y h=>nomatch h⟩
 |cons b l ih=>
  intro a;refine xA (ih (max a b)) fun h1 h2=>⟨Int.le_trans (Int.le_max_left _ _) h1,fun x hx=>?_⟩
  refine Or.elim (List.mem_cons.mp hx) (fun ρ=>?_) fun hx=>?_
  ·exact J ρ<|Int.le_trans (Int.le_max_right _ _) h1
  ·exact h2 x hx
theorem uj(T:Tb):fU T ∉ T.map (·.1):=fun h=>by
 obtain this:=(Hw (T.map (·.1)) 0).2 _ h;unfold fU at this;lia
noncomputable def cV(v:bz):V×V×V×V:=(ov v.1,ov v.2.1,ov v.2.2.1,ov v.2.2.2)
theorem j9(i:Inv c T p):i9 nk (.newRowid 3) p=some (.next,p.put 3 (.int (fU T))):=by refine(?_ :some (fY.next,p.put 3 (.int ((p.rows.map (·.1)).foldl max 0+1)))=_);(refine J i.rows<|J QZ ?_);rfl
theorem HB(hg:8<=g)(h:aK P s (lV (cV v) g++vE c g (s+4)))(i:Inv c T p):
  ∃p',(∀j,j < 3->p'.rg j=p.rg j)/\hW p p'/\iU p' (a_ c T v) (bN c T v)/\∀r q,Ex nk P (s+(lV (cV v) g++vE c g (s+4)).length) p' r q->Ex nk P s p r q:=by
 let p1:=(((p.put g (ov v.1)).put (g+1) (ov v.2.1)).put (g+2) (ov v.2.2.1)).put (g+3) (ov v.2.2.2);let p2:=(((p1.put 4 (ov v.1)).put 5 (ov v.2.1)).put 6 (ov v.2.2.1)).put 7 (ov v.2.2.2);have ne:∀a b:Nat,a≠b->∀(p:PM) (x:V),(p.put b x).rg a=p.rg a:=fun a b h p x=>QN h;have eq:∀a:Nat,∀(p:PM) (x:V),(p.put a x).rg a=some x:=fun a p x=>QM rfl;have rgv:∀{p:PM} {j:Nat} {x:V},p.rg j=some x->p.reg j=x:=fun h=>kN h;have h0:aK P s (.value g (ov v.1)::.value (g+1) (ov v.2.1)::.value (g+2) (ov v.2.2.1)::.value (g+3) (ov v.2.2.2)::vE c g (s+4)):=h;obtain hN:=h0.tl.tl.tl.tl;obtain a0:p1.rg g=some (ov v.1):=by(exact J ((ne _ _ (fun e=>ai 0xc3140140045003003042181 rfl e)) _ _)<|J ((ne _ _ (fun e=>ai 0x83140140045003003041181 rfl e)) _ _)<|J ((ne _ _ (fun e=>ai 0x43140140045003003040181 rfl e)) _ _)<|J (eq _ _ _) rfl)
 obtain a1:p1.rg (g+1)=some (ov v.2.1):=by(exact J ((ne _ _ (fun e=>ai 0x30c50010c5000045003003041181 rfl e)) _ _)<|J ((ne _ _ (fun e=>ai 0x20c50010c5000045003003040181 rfl e)) _ _)<|J (eq _ _ _) rfl)
 obtain a2:p1.rg (g+2)=some (ov v.2.2.1):=by(exact J ((ne _ _ (fun e=>ai 0x30c50020c5000045003003040181 rfl e)) _ _)<|J (eq _ _ _) rfl)
 obtain a3:p1.rg (g+3)=some (ov v.2.2.2):=eq _ _ _;have hc:aK P (s+4) (.copy g 4::.copy (g+1) 5::.copy (g+2) 6::.copy (g+3) 7::.aff 4 4::(if c.keyed then [.isNull 4 (s+4+10),.copy 4 3,.aff 3 1,.mustBeInt 3,.goto (s+4+11),.newRowid 3,.copy 3 4] else [.newRowid 3])):=hN;obtain c0:i9 nk (.copy g 4) p1=some (.next,p1.put 4 (ov v.1)):=by refine(?_ :some (fY.next,p1.put 4 (p1.reg g))=_);exact J (rgv a0) rfl
 obtain c1:i9 nk (.copy (g+1) 5) (p1.put 4 (ov v.1))=some (.next,(p1.put 4 (ov v.1)).put 5 (ov v.2.1)):=by refine(?_ :some (fY.next,PM.put _ 5 (PM.reg _ (g+1)))=_);exact J (rgv ((ne _ _ (fun e=>ai 0x40c10c50000421480c0040003003084181 rfl hg e) _ _).trans a1)) rfl
 obtain c2:i9 nk (.copy (g+2) 6) ((p1.put 4 (ov v.1)).put 5 (ov v.2.1))=some (.next,((p1.put 4 (ov v.1)).put 5 (ov v.2.1)).put 6 (ov v.2.2.1)):=by refine(?_ :some (fY.next,PM.put _ 6 (PM.reg _ (g+2)))=_);exact J (rgv ((ne _ _ (fun e=>ai 0x50c20c50000421480c0040003003084181 rfl hg e) _ _).trans ((ne _ _ (fun e=>ai 0x40c20c50000421480c0040003003085181 rfl hg e) _ _).trans a2))) rfl
 obtain c3:i9 nk (.copy (g+3) 7) (((p1.put 4 (ov v.1)).put 5 (ov v.2.1)).put 6 (ov v.2.2.1))=some (.next,p2):=by refine(?_ :some (fY.next,PM.put _ 7 (PM.reg _ (g+3)))=_);exact J (rgv ((ne _ _ (fun e=>ai 0x60c30c50000421480c0040003003084181 rfl hg e) _ _).trans ((ne _ _ (fun e=>ai 0x50c30c50000421480c0040003003085181 rfl hg e) _ _).trans ((ne _ _ (fun e=>ai 0x40c30c50000421480c0040003003086181 rfl hg e) _ _).trans a3)))) rfl
 have pre:∀r q,Ex nk P (s+9) p2 r q->Ex nk P s p r q:=fun r q z=>ax h0 rfl (ax h0.tl rfl (ax h0.tl.tl rfl (ax h0.tl.tl.tl rfl (ax hc c0 (ax hc.tl c1 (ax hc.tl.tl c2 (ax hc.tl.tl.tl c3 (ax hc.tl.tl.tl.tl rfl z))))))));have hd:=hc.tl.tl.tl.tl.tl;have b4:p2.rg 4=some (ov v.1):=by(exact J ((ne _ _ (fun e=>lin 0x70c40c0045003003042180 rfl e)) _ _)<|J ((ne _ _ (fun e=>lin 0x60c40c0045003003041180 rfl e)) _ _)<|J ((ne _ _ (fun e=>lin 0x50c40c0045003003040180 rfl e)) _ _)<|J (eq _ _ _) rfl)
 have b5:p2.rg 5=some (ov v.2.1):=by(exact J ((ne _ _ (fun e=>lin 0x70c50c0045003003041180 rfl e)) _ _)<|J ((ne _ _ (fun e=>lin 0x60c50c0045003003040180 rfl e)) _ _)<|J (eq _ _ _) rfl)
 have b6:p2.rg 6=some (ov v.2.2.1):=by(exact J ((ne _ _ (fun e=>lin 0x70c60c0045003003040180 rfl e)) _ _)<|J (eq _ _ _) rfl)
 have b7:p2.rg 7=some (ov v.2.2.2):=eq _ _ _;have FG:∀j,j < 3->p2.rg j=p.rg j:=fun j hj=>by refine J ((ne _ _ (fun e=>ai 0x1c31400450c3140041003003084181 rfl hj e)) _ _)<|J ((ne _ _ (fun e=>ai 0x1831400450c3140041003003083181 rfl hj e)) _ _)<|J ((ne _ _ (fun e=>ai 0x1431400450c3140041003003082181 rfl hj e)) _ _)<|J ((ne _ _ (fun e=>ai 0x1031400450c3140041003003081181 rfl hj e)) _ _) ?_;exact J ((ne _ _ (fun e=>ai 0xc31401800450c31800411480c00400030030c8182 rfl hg hj e)) _ _)<|J ((ne _ _ (fun e=>ai 0x831401800450c31800411480c00400030030c7182 rfl hg hj e)) _ _)<|J ((ne _ _ (fun e=>ai 0x431401800450c31800411480c00400030030c6182 rfl hg hj e)) _ _)<|J ((ne _ _ (fun e=>ai 0x51800450c31800411480c00400030030c5182 rfl hg hj e)) _ _) rfl
 obtain sm:hW p p2:=⟨rfl,rfl,rfl⟩
 have i2:=i.same sm
 cases hk:c.keyed with
 |false=>
  obtain hd:=hk▸hd
  have el:s+(lV (cV v) g++vE c g (s+4)).length=s+9+1:=by
   have:(vE c g (s+4)).length=6:=by delta vE;refine J hk ?_;rfl
   (refine J QI<|J this ?_);rfl
  have ek:a_ c T v=fU T:=by delta a_;exact J hk rfl
  have er:bN c T v=v:=by delta bN;refine J hk ?_;rfl
  refine J ek<|J er<|J el ?_;refine⟨p2.put 3 (.int (fU T)),fun j hj=>(ne _ _ (fun e=>ai 0xc31400450c3140041003003080181 rfl hj e) _ _).trans (FG j hj),⟨rfl,rfl,rfl⟩,⟨eq _ _ _,fun i hi=>?_⟩,fun r q z=>pre r q (ax hd (j9 i2) z)⟩
  match i,hi with
  |0,_=>exact rgv ((ne _ _ (fun e=>lin 0xc3003103000042003003040180 rfl e) _ _).trans b4)
  |1,_=>exact rgv ((ne _ _ (fun e=>lin 0xc3043103000042003003041180 rfl e) _ _).trans b5)
  |2,_=>exact rgv ((ne _ _ (fun e=>lin 0xc3083103000042003003042180 rfl e) _ _).trans b6)
  |3,_=>exact rgv ((ne _ _ (fun e=>lin 0xc30c3103000042003003043180 rfl e) _ _).trans b7)
  |i+4,h=>exact absurd h (lin 0x103103140000101 rfl _)
 |true=>
  obtain hd:=hk▸hd;have hd:aK P (s+9) [.isNull 4 (s+4+10),.copy 4 3,.aff 3 1,.mustBeInt 3,.goto (s+4+11),.newRowid 3,.copy 3 4]:=hd
  obtain el:s+(lV (cV v) g++vE c g (s+4)).length=s+16:=by
   obtain this:(vE c g (s+4)).length=12:=by delta vE;refine J hk ?_;rfl
   (refine J QI<|J this ?_);rfl
  obtain er:bN c T v=(some (a_ c T v),v.2):=by delta bN;refine J hk ?_;rfl
  refine J er<|J el ?_;have isn:i9 nk (.isNull 4 (s+4+10)) p2=some (nR v.1.isNone (s+4+10),p2):=by refine(?_ :(lD (p2.reg 4)).map _=_);(refine J (rgv b4)<|J (wg _) ?_);rfl
  have fin:∀(u:Int),∃p',(∀j,j < 3->p'.rg j=p.rg j)/\hW p p'/\iU p' u (some u,v.2)/\∀r q,Ex nk P (s+16) p' r q->Ex nk P (s+15) (p2.put 3 (.int u)) r q:=fun u=>by
   refine⟨(p2.put 3 (.int u)).put 4 (.int u),fun j hj=>(ne _ _ (fun e=>ai 0x1031400450c3140041003003081181 rfl hj e) _ _).trans ((ne _ _ (fun e=>ai 0xc31400450c3140041003003080181 rfl hj e) _ _).trans (FG j hj)),⟨rfl,rfl,rfl⟩,⟨(ne _ _ (fun e=>lin 0x40c30c0045003003040180 rfl e) _ _).trans (eq _ _ _),fun i hi=>?_⟩,fun r q z=>ax hd.tl.tl.tl.tl.tl.tl (by exact J (rgv (eq 3 p2 (.int u))) rfl) z⟩
   match i,hi with
   |0,_=>exact rgv (eq _ _ _)
   |1,_=>exact rgv ((ne _ _ (fun e=>lin 0x103043103000042003003040180 rfl e) _ _).trans ((ne _ _ (fun e=>lin 0xc3043103000042003003041180 rfl e) _ _).trans b5))
   |2,_=>exact rgv ((ne _ _ (fun e=>lin 0x103083103000042003003041180 rfl e) _ _).trans ((ne _ _ (fun e=>lin 0xc3083103000042003003042180 rfl e) _ _).trans b6))
   |3,_=>exact rgv ((ne _ _ (fun e=>lin 0x1030c3103000042003003042180 rfl e) _ _).trans ((ne _ _ (fun e=>lin 0xc30c3103000042003003043180 rfl e) _ _).trans b7))
   |i+4,h=>exact absurd h (lin 0x103103140000101 rfl _)
  refine iS v.1 (fun ea=>?_) fun a ea=>?_
  ·have ek:a_ c T v=fU T:=by delta a_;(exact J hk<|J ea rfl)
   refine J ek<|bA (fin (fU T)) fun p' f1 f2 f3 f4=>⟨p',f1,f2,f3,fun r q z=>pre r q (dK hd (by(refine J isn<|J ea ?_);rfl) (lin 0x10c10c10c10c10c90c5000000000243140000041 rfl _) (ax hd.tl.tl.tl.tl.tl (j9 i2) (f4 r q z)))⟩
  ·obtain ek:a_ c T v=a:=by delta a_;(exact J hk<|J ea rfl)
   refine J ek<|bA (fin a) fun p' f1 f2 f3 f4=>?_;obtain c4:i9 nk (.copy 4 3) p2=some (.next,p2.put 3 (.int a)):=by refine(?_ :some (fY.next,p2.put 3 (p2.reg 4))=_);(refine J (rgv b4)<|J ea ?_);rfl
   exact⟨p',f1,f2,f3,fun r q z=>pre r q (ax hd (by(refine J isn<|J ea ?_);rfl) (ax hd.tl c4 (ax hd.tl.tl rfl (ax hd.tl.tl.tl rfl (dK hd.tl.tl.tl.tl rfl (lin 0xb0c40c5000043043043043243140000000000041 rfl _) (f4 r q z))))))⟩
end
section
variable{v v':bz}{c:fZ}{w:cq}{T:Tb}{old:Option Nat}
theorem gX(w:cq)(a b k k':Nat):(bo w a k).length=(bo w b k').length:=by cases w<;>rfl
theorem x_(s k s' k':Nat):(c7 c w s k).length=(c7 c w s' k').length:=by obtain this:=gX w 33 33 k k';delta c7;cases c.dflt<;>cases aY w<;>simp[this]
theorem xW(s k s' k':Nat):(eE w s k).length=(eE w s' k').length:=by obtain this:=gX w 38 38 k k';delta eE;simp[this]
theorem wY(R s k s' k':Nat):(fj c w old R s k).length=(fj c w old R s' k').length:=by
 have h1:∀k,(eG c w R k).length=(eG c w R 0).length:=fun k=>by delta eG;cases aY w<;>simp[gX w 43 43 k 0]
 obtain h2:∀f,(dX old 3 f).length=(dX old 0 0).length:=fun f=>by cases old<;>rfl
 delta fj;simp[h1 k,h1 k',h2]
theorem p7:∀(L:List (Ix×Option Nat)) (R s k s' k':Nat),(dC c w old k L R s).1.length=(dC c w old k' L R s').1.length/\(dC c w old k L R s).2=(dC c w old k' L R s').2
 | [],_,_,_,_,_=>⟨rfl,rfl⟩
 |(x,kf)::L,R,s,k,s',k'=>by
  have h1:∀k f o,(iC c w ((ge x kf R).2+1) k f o).length=(iC c w ((ge x kf R).2+1) 0 0 0).length:=fun k f o=>by delta iC;cases aY w<;>simp[gX w 45 45 k 0]
  have h2:∀a f,(dX old a f).length=(dX old 0 0).length:=fun a f=>by cases old<;>rfl
  have ih:=fun R s s'=>p7 L R s k s' k';refine(?_ :(match x.uni with|false=>_|true=>_:List Op×Nat×List (Option Nat)).1.length=(match x.uni with|false=>_|true=>_:List Op×Nat×List (Option Nat)).1.length/\(match x.uni with|false=>_|true=>_:List Op×Nat×List (Option Nat)).2=(match x.uni with|false=>_|true=>_:List Op×Nat×List (Option Nat)).2);refine rt x.uni ?_ ?_
  ·dsimp only;refine⟨?_,?_⟩
   ·simp only[List.length_append,List.length_cons,h1,h2];exact J ((ih _ _ _).1) rfl
   ·exact J ((ih _ _ _).2) rfl
  ·exact⟨(ih R s s').1,by dsimp only;exact J ((ih R s s').2) rfl⟩
theorem oY(s k s' k':Nat):(c8 c w old isNew st s k).1.length=(c8 c w old isNew st s' k').1.length/\(c8 c w old isNew st s k).2=(c8 c w old isNew st s' k').2:=by
 delta c8;dsimp only;refine⟨?_,?_⟩
 ·simp only[List.length_append];refine congr (congrArg HAdd.hAdd (x_ s k s' k')) (congr (congrArg HAdd.hAdd (xW _ k _ k')) (congr (congrArg HAdd.hAdd ?_) (p7 _ _ _ k _ k').1));cases isNew
  ·exact wY st.R _ k _ k'
  ·rfl
 ·exact J ((p7 ((aG c).zip st.keys) _ _ k _ k').2) rfl
theorem DH(v:V×V×V×V)(s k s' k':Nat):(jn c w st v s k).1.length=(jn c w st v s' k').1.length/\(jn c w st v s k).2=(jn c w st v s' k').2:=by
 obtain hn:∀s s',(vE c st.R s).length=(vE c st.R s').length:=fun s s'=>by delta vE;cases c.keyed<;>rfl
 delta jn;dsimp only;have e:=oY (c:=c) (w:=w) (old:=none) (st:=⟨st.R+4,st.keys⟩) (isNew:= !c.keyed);refine⟨?_,?_⟩
 ·simp only[List.length_append];(refine J (hn (s+4) (s'+4)) ?_;(rw [(e _ k _ k').1];exact J ((e _ k _ k').2) rfl))
 ·exact J ((e _ k _ k').2) rfl
noncomputable def cb(c:fZ)(w:cq)(T:Tb)(v:bz):Except (Option Nat) Tb:=match d6 c w T none (a_ c T v) (bN c T v) with
 |.ok q=>.ok (q.1++ [(a_ c T v,q.2)])
 |.error e=>.error e
def Rw(c:fZ)(P:List Op)(s:Nat)(p:PM)(w:cq)(n:Int)(k:Nat)(T:Tb):Except (Option Nat) Tb->Prop
 |.ok T'=>∃p',Inv c T' p'/\p'.rg 1=some (.int 0)/\p'.rg 2=some (.int (n+1))/\p'.ch=p.ch/\∀r q,Ex (aG c).length P k p' r q->Ex (aG c).length P s p r q
 |.error none=>∃p',Inv c T p'/\p'.rg 1=some (.int 0)/\p'.rg 2=some (.int n)/\p'.ch=p.ch/\∀r q,Ex (aG c).length P k p' r q->Ex (aG c).length P s p r q
 |.error (some kind)=>∃p',Inv c T p'/\p'.ch=p.ch/\Ex (aG c).length P s p (vi (jM w),.lit kind) (AX w n p')
def dp(c:fZ)(T:Tb):Prop:=∀x∈oj c,MP x T
theorem dA(h:d6 c w T was key v=.ok (T2,v2)):T2=(T.filter fun e=> !i8 key was e).filter fun e=> !(oj c).any fun x=>mt x was v2 e:=by
 delta d6 at h
 cases e1:dG c w v with
 |error e=>obtain h:=e1▸h;exact nomatch h
 |ok v1=>
  rw [e1] at h;refine qX (gm w v1) (fun e e2=>?_) fun v3 e2=>?_
  ·simp only[e2] at h;exact nomatch h
  ·simp only[e2] at h;split at h
   ·split at h
    ·cases h;rfl
    ·exact nomatch h
   ·exact nomatch h
theorem qu(h:d6 c w T none key v=.ok (T2,v2)):key ∉ T2.map (·.1):=fun hk=>by
 rw [dA h] at hk;refine an (List.mem_map.mp hk) fun e he ρ=>?_;subst ρ;have:=(List.mem_filter.mp (List.mem_filter.mp he).1).2;unfold i8 at this;simp at this
theorem vT(co:dp c T)(h:d6 c w T none key v=.ok (T2,v2)):dp c (T2++ [(key,v2)]):=fun x hx e1 h1 e2 h2 e hn=>by
 have hT:=dA h;have sub:∀e∈T2,e∈T:=fun e he=>by rw [hT] at he;exact(List.mem_filter.mp (List.mem_filter.mp he).1).1
 have no:∀e∈T2,x.of e.2=x.of v2->none∈x.of v2:=fun e he e3=>by
  rw [hT] at he;obtain h3:=(List.mem_filter.mp he).2;obtain h4:(oj c).any (fun x=>mt x none v2 e)=false:=by simpa using h3
  have h5:=List.any_eq_false.mp h4 x hx;unfold mt at h5;rw [beq_iff_eq.mpr e3] at h5;simpa using h5
 rcases List.mem_append.mp h1 with h1|h1<;>rcases List.mem_append.mp h2 with h2|h2
 ·exact co x hx e1 (sub _ h1) e2 (sub _ h2) e hn
 ·cases List.mem_singleton.mp h2;exact absurd (no e1 h1 e) (e▸hn)
 ·cases List.mem_singleton.mp h1;exact absurd (no e2 h2 e.symm) hn
 ·refine aQ (Eq.symm (List.mem_singleton.mp h1))<|aQ (Eq.symm (List.mem_singleton.mp h2)) ?_;rfl
structure qv(c:fZ)(A:Nat->Prop)(st:St)(m:Nat):Prop where
 l:st.keys.length=(aG c).length
 k:bE A st.R ((aG c).zip st.keys)
 a:∀j,st.R<=j->¬A j
 r:st.R<=m
theorem FH(h:aK P s (jn c w st (cV v) s k).1)(hk:k=s+(jn c w st (cV v) s k).1.length)(i:Inv c T p)(co:dp c T)(hz:p.rg 1=some (.int 0))(hn:p.rg 2=some (.int n))(so:qv c (· < 8) st 100000):Rw c P s p w n k T (cb c w T v)/\qv c (· < 8) (jn c w st (cV v) s k).2 (st.R+200):=by
 have h8:=Nat.le_of_not_lt fun h=>so.a _ (QR _) h;have hr:=so.r;let a:=lV (cV v) st.R++vE c st.R (s+4);let ck:=c8 c w none (!c.keyed) ⟨st.R+4,st.keys⟩ (s+a.length) k;let pt:=ly c true ck.2;have h:aK P s (a++(ck.1++pt.1)):=h
 have hk:k=s+(a.length+(ck.1.length+pt.1.length)):=by
  (refine aQ (QI)<|aQ (QI) ?_);exact hk
 have k4:bE (· < 8) (st.R+4) ((aG c).zip st.keys):=so.k.up (lin 0x40c5005000001 rfl _);have a4:∀j,st.R+4<=j->¬j < 8:=fun j hj=>ai 0x51031800020062030020080c5082102 rfl h8 hj;refine fi (pw (w:=w) (old:=none) (s:=s+a.length) (k:=k) (isNew:= !c.keyed) (st:=⟨st.R+4,st.keys⟩) so.l k4 a4 (by exact ai 0x186a01050010000dbba01000001f41040c5000040001 rfl hr)) fun t1 t2 t3 t4=>?_;have t1:st.R+4<=ck.2.R:=t1;have t2:ck.2.R<=st.R+4+60:=t2;have a5:∀j,ck.2.R<=j->¬j < 8:=fun j hj=>ai 0x1470020071031800020062030020080c50c2103 rfl h8 t1 hj;refine fi (wq (st:=ck.2) t3 t4 a5 (ai 0x3c0c40c600014004000061a8041800400036ee804000007d04140080002 rfl hr t2)) fun u1 u2 u3 u4=>⟨?_,⟨u3,u4,fun j hj=>by have:pt.2.R<=j:=hj;have:ck.2.R<=pt.2.R:=u1;exact ai 0x81c00801480020071031800020062030020080c5102104 rfl h8 t1 ‹_› this,by have:pt.2.R<=ck.2.R+60:=u2;exact ai 0xf031c0140040f031031800070010000000c8106005080003 rfl t2 this⟩⟩
 refine bA (HB (nk:=(aG c).length) h8 h.left i) fun p1 f1 f2 f3 f4=>?_;obtain i1:=i.same f2;have n1:=(f1 2 (by exact by decide)).trans hn;have z1:=(f1 1 (by exact by decide)).trans hz
 have ckd:=sr (was:=none) h.right.left i1 co f3 z1 n1 (fun e=>by
  obtain hkf:c.keyed=false:=by simpa using e
  delta a_;exact J hkf<|uj T) so.l (fun Y h=>h) trivial (fun o h=>nomatch h) (fun h=>nomatch h) k4 a4 (by exact ai 0x186a01050010000dbba01000001f41040c5000040001 rfl hr) (by exact ai 0x91c0180140200045207185000040005 rfl hk)
 delta cb;refine qX (d6 c w T none (a_ c T v) (bN c T v)) (fun e2 e=>?_) fun q0 e=>?_
 ·rw [e] at ckd
  cases e2 with
  |none=>exact bA ckd fun p' g1 g2 g3 g4=>⟨p',g2,(g1 1 (show 1 < 8 by exact by decide) (by exact fun e=>lin 0x60c10c0045003003044180 rfl e)).trans z1,(g1 2 (show 2 < 8 by exact by decide) (fun e=>lin 0x60c20c0045003003043180 rfl e)).trans n1,g3.trans f2.ch,fun r q z=>f4 r q (g4 r q z)⟩
  |some kd=>exact bP ckd fun p' g1 g2 g3=>⟨p',g1,g2.trans f2.ch,f4 _ _ g3⟩
 ·obtain ckd:=e▸ckd;obtain⟨T2,v2⟩:=q0;refine cR ckd fun p2 g1 g2 g3 g4 g5=>?_;have n2:=(g1 2 (show 2 < 8 by exact by decide) (fun e=>lin 0x60c20c0045003003043180 rfl e)).trans n1;obtain z2:=(g1 1 (show 1 < 8 by exact by decide) (fun e=>lin 0x60c10c0045003003044180 rfl e)).trans z1;refine cR (AK h.right.right g2 (qu e) g3 n2 t3 (fun Y h=>h) t4 a5 (by exact ai 0x3c0c40c600014004000061a8041800400036ee804000006404140080002 rfl hr t2)) fun p3 d1 d2 d3 d4 d5=>⟨p3,d3,(d1 1 (show 1 < 8 by exact by decide) (fun e=>lin 0x20c10c0045003003040180 rfl e)).trans z2,d2,d4.trans (g4.trans f2.ch),fun r q z=>f4 r q (g5 r q (d5 r q ?_))⟩
  obtain this:s+a.length+ck.1.length+pt.1.length=k:=QF (ai 0x81c01801402400452481c6140000040005 rfl hk) (ai 0x92001c01801400422481c6000005040005 rfl hk);exact J this<|z
noncomputable def ak(c:fZ)(w:cq):List bz->Tb->Nat->Tb×Nat×Option Nat
 | [],T,n=>(T,n,none)
 |v::vs,T,n=>match cb c w T v with
  |.ok T'=>ak c w vs T' (n+1)
  |.error none=>ak c w vs T n
  |.error (some kd)=>(T,n,some kd)
noncomputable def oe(w:cq):Option Nat->V×V
 |none=>(.none,.none)
 |some kd=>(vi (jM w),.lit kd)
noncomputable def Ez(w:cq)(n:Nat):Option Nat->Int
 |none=>n
 |some _=>match w with
  |.fail=>n
  |_=>0
theorem kT:∀(vs:List bz) (s:Nat) (p:PM) (T:Tb) (n:Nat) (st:St),aK P s (nb c w (vs.map cV) st s)->Inv c T p->dp c T->p.rg 1=some (.int 0)->p.rg 2=some (.int n)->p.ch=0->qv c (· < 8) st (50000 - 200*vs.length)->vs.length<=100->
  ∃q,Ex (aG c).length P s p (oe w (ak c w vs T n).2.2) q/\Inv c (ak c w vs T n).1 q/\q.ch=Ez w (ak c w vs T n).2.1 (ak c w vs T n).2.2
 | [],s,p,T,n,st,h,i,co,hz,hn,hc,so,hl=>by refine⟨{p with ch:=p.ch+n},ax h (iK hn) (.halt h.tl.hd),⟨i.rows,i.ks,i.nd⟩,?_⟩;refine(?_ :p.ch+n=_);exact J hc<|Int.zero_add _
 |v::vs,s,p,T,n,st,h,i,co,hz,hn,hc,so,hl=>by
  rw [List.length_cons] at so hl;let k:=s+(jn c w st (cV v) 0 0).1.length;have h:aK P s ((jn c w st (cV v) s k).1++nb c w (vs.map cV) (jn c w st (cV v) s k).2 k):=h;have hk:k=s+(jn c w st (cV v) s k).1.length:=by exact J ((DH (cV v) s k 0 0).1) rfl
  refine xA (FH h.left hk i co hz hn ⟨so.l,so.k,so.a,by have:=so.r;exact ai 0x30d4041800401850010000186a0105080002 rfl this (Nat.sub_le _ _)⟩) fun rw' so'=>?_;have h2:aK P k (nb c w (vs.map cV) (jn c w st (cV v) s k).2 k):=by obtain this:=h.right;rwa [<-hk] at this
  have so2:qv c (· < 8) (jn c w st (cV v) s k).2 (50000 - 200*vs.length):=⟨so'.l,so'.k,so'.a,by have:=so'.r;have:=so.r;lia⟩
  refine(?_ :∃q,Ex (aG c).length P s p (oe w (match cb c w T v with|.ok T'=>ak c w vs T' (n+1)|.error none=>ak c w vs T n|.error (some kd)=>(T,n,some kd)).2.2) q/\Inv c (match cb c w T v with|.ok T'=>ak c w vs T' (n+1)|.error none=>ak c w vs T n|.error (some kd)=>(T,n,some kd)).1 q/\q.ch=Ez w (match cb c w T v with|.ok T'=>ak c w vs T' (n+1)|.error none=>ak c w vs T n|.error (some kd)=>(T,n,some kd)).2.1 (match cb c w T v with|.ok T'=>ak c w vs T' (n+1)|.error none=>ak c w vs T n|.error (some kd)=>(T,n,some kd)).2.2)
  cases e:cb c w T v with
  |ok T'=>
   rw [e] at rw';refine cR rw' fun p' g1 g2 g3 g4 g5=>?_
   obtain co':dp c T':=by
    delta cb at e;refine qX (d6 c w T none (a_ c T v) (bN c T v)) (fun Y e2=>?_) fun q0 e2=>?_
    ·rw [e2] at e;exact nomatch e
    ·rw [e2] at e;exact MG e<|vT co e2
   exact bP (kT vs k p' T' (n+1) _ h2 g1 co' g2 g3 (g4.trans hc) so2 (ai 0x1904043140001000000064105040001 rfl hl)) fun q d1 d2 d3=>⟨q,g5 _ _ d1,d2,d3⟩
  |error e2=>
   rw [e] at rw'
   cases e2 with
   |none=>exact cR rw' fun p' g1 g2 g3 g4 g5=>bP (kT vs k p' T n _ h2 g1 co g2 g3 (g4.trans hc) so2 (ai 0x1904043140001000000064105040001 rfl hl)) fun q d1 d2 d3=>⟨q,g5 _ _ d1,d2,d3⟩
   |some kd=>
    refine bP rw' fun p' g1 g2 g3=>⟨_,g3,?_,?_⟩
    ·cases w<;>first|exact g1|exact⟨g1.rows,g1.ks,g1.nd⟩
    ·cases w<;>first|exact g2.trans hc|(refine(?_ :p'.ch+(n:Int)=_);(refine J g2<|J hc ?_);exact Int.zero_add _)
end
section
variable{key n:Int}{T:Tb}
theorem DF(wv:V)(v:V×V×V×V)(s k s' k':Nat):(jq c w st wv v s k).1.length=(jq c w st wv v s' k').1.length/\(jq c w st wv v s k).2=(jq c w st wv v s' k').2:=by
 delta jq;dsimp only;have e:=oY (c:=c) (w:=w) (old:=some st.R) (st:=⟨st.R+1,st.keys⟩) (isNew:=false);refine⟨?_,?_⟩
 ·simp only[List.length_append,List.length_cons,List.length_nil]
  (rw [(e _ k _ k').1];exact J ((e _ k _ k').2) rfl)
 ·exact J ((e _ k _ k').2) rfl
noncomputable def bJ(c:fZ)(u:Int)(v:bz):Int:=match c.keyed,v.1 with
 |true,some a=>a
 |_,_=>u
noncomputable def dB(c:fZ)(w:cq)(T:Tb)(u:Int)(v:bz):Except (Option Nat) Tb:=match T.lookup u with
 |none=>.error none
 |some _=>match d6 c w T (some u) (bJ c u v) v with
  |.ok q=>.ok ((q.1.filter fun e=>e.1 != u)++ [(bJ c u v,q.2)])
  |.error e=>.error e
theorem wm(h:d6 c w T (some u) key v=.ok (T2,v2)):key ∉ (T2.filter fun e=>e.1 != u).map (·.1):=fun hk=>by
 refine an (List.mem_map.mp hk) fun e he ρ=>?_;subst ρ;refine xA (List.mem_filter.mp he) fun h1 h2=>?_;obtain h1:=(dA h)▸h1;have:=(List.mem_filter.mp (List.mem_filter.mp h1).1).2;unfold i8 at this;simp at this h2;exact h2 this
theorem GH(h:d6 c w T (some u) key v=.ok (T2,v2))(hz:(u,z)∈T):(u,z)∈T2:=by
 refine J (dA h)<|List.mem_filter.mpr ⟨List.mem_filter.mpr ⟨hz,?_⟩,?_⟩
 ·delta i8;simp
 ·obtain this:∀x:Ix,mt x (some u) v2 (u,z)=false:=fun x=>by delta mt;simp
  simp[this]
theorem C6(co:dp c T)(h:d6 c w T (some u) key v=.ok (T2,v2)):dp c ((T2.filter fun e=>e.1 != u)++ [(key,v2)]):=fun x hx e1 h1 e2 h2 e hn=>by
 have hT:=dA h;have sub:∀e∈T2.filter (fun e=>e.1 != u),e∈T:=fun e he=>by have he:=(List.mem_filter.mp he).1;obtain he:=hT▸he;exact(List.mem_filter.mp (List.mem_filter.mp he).1).1
 have no:∀e∈T2.filter (fun e=>e.1 != u),x.of e.2=x.of v2->none∈x.of v2:=fun e he e3=>by
  refine xA (List.mem_filter.mp he) fun he hu=>?_;obtain he:=hT▸he;obtain h3:=(List.mem_filter.mp he).2;obtain h4:(oj c).any (fun x=>mt x (some u) v2 e)=false:=by simpa using h3
  have h5:=List.any_eq_false.mp h4 x hx;unfold mt at h5;rw [beq_iff_eq.mpr e3] at h5;obtain hu:e.1≠u:=by simpa using hu
  simpa [hu] using h5
 rcases List.mem_append.mp h1 with h1|h1<;>rcases List.mem_append.mp h2 with h2|h2
 ·exact co x hx e1 (sub _ h1) e2 (sub _ h2) e hn
 ·cases List.mem_singleton.mp h2;exact absurd (no e1 h1 e) (e▸hn)
 ·cases List.mem_singleton.mp h1;exact absurd (no e2 h2 e.symm) hn
 ·refine aQ (Eq.symm (List.mem_singleton.mp h1))<|aQ (Eq.symm (List.mem_singleton.mp h2)) ?_;rfl
theorem D2(ho:8<=o)(hkv:c.keyed=true->v.1≠none)(h:aK P s (lV (cV v) 4++if c.keyed then [.copy 4 3,.aff 3 1,.mustBeInt 3,.copy 3 4] else [.copy o 3]))(hu:p.rg o=some (.int u)):
  ∃p',(∀j,j < 3\/8<=j->p'.rg j=p.rg j)/\hW p p'/\iU p' (bJ c u v) v/\∀r q,Ex nk P (s+(lV (cV v) 4++if c.keyed then [.copy 4 3,.aff 3 1,.mustBeInt 3,.copy 3 4] else [.copy o 3]:List Op).length) p' r q->Ex nk P s p r q:=by
 have ne:∀a b:Nat,a≠b->∀(p:PM) (x:V),(p.put b x).rg a=p.rg a:=fun a b h p x=>QN h;have eq:∀a:Nat,∀(p:PM) (x:V),(p.put a x).rg a=some x:=fun a p x=>QM rfl;have rgv:∀{p:PM} {j:Nat} {x:V},p.rg j=some x->p.reg j=x:=fun h=>kN h;let p2:=(((p.put 4 (ov v.1)).put 5 (ov v.2.1)).put 6 (ov v.2.2.1)).put 7 (ov v.2.2.2);have h0:aK P s (.value 4 (ov v.1)::.value 5 (ov v.2.1)::.value 6 (ov v.2.2.1)::.value 7 (ov v.2.2.2)::(if c.keyed then [.copy 4 3,.aff 3 1,.mustBeInt 3,.copy 3 4] else [.copy o 3])):=h;have pre:∀r q,Ex nk P (s+4) p2 r q->Ex nk P s p r q:=fun r q z=>ax h0 rfl (ax h0.tl rfl (ax h0.tl.tl rfl (ax h0.tl.tl.tl rfl z)));have hd:=h0.tl.tl.tl.tl;have b4:p2.rg 4=some (ov v.1):=by(exact J ((ne _ _ (fun e=>lin 0x70c40c0045003003042180 rfl e)) _ _)<|J ((ne _ _ (fun e=>lin 0x60c40c0045003003041180 rfl e)) _ _)<|J ((ne _ _ (fun e=>lin 0x50c40c0045003003040180 rfl e)) _ _)<|J (eq _ _ _) rfl)
 have b5:p2.rg 5=some (ov v.2.1):=by(exact J ((ne _ _ (fun e=>lin 0x70c50c0045003003041180 rfl e)) _ _)<|J ((ne _ _ (fun e=>lin 0x60c50c0045003003040180 rfl e)) _ _)<|J (eq _ _ _) rfl)
 have b6:p2.rg 6=some (ov v.2.2.1):=by(exact J ((ne _ _ (fun e=>lin 0x70c60c0045003003040180 rfl e)) _ _)<|J (eq _ _ _) rfl)
 have b7:p2.rg 7=some (ov v.2.2.2):=eq _ _ _;have FG:∀j,j < 3\/8<=j->p2.rg j=p.rg j:=fun j hj=>by exact J ((ne _ _ (by lia)) _ _)<|J ((ne _ _ (by lia)) _ _)<|J ((ne _ _ (by lia)) _ _)<|J ((ne _ _ (by lia)) _ _) rfl
 cases hk:c.keyed with
 |false=>
  obtain hd:=hk▸hd;have ek:bJ c u v=u:=by delta bJ;exact J hk rfl
  refine J ek<|⟨p2.put 3 (.int u),fun j hj=>(ne _ _ (by lia) _ _).trans (FG j hj),⟨rfl,rfl,rfl⟩,⟨eq _ _ _,fun i hi=>?_⟩,fun r q z=>pre r q (ax hd (by refine(?_ :some (fY.next,p2.put 3 (p2.reg o))=_);exact J (rgv ((FG o (.inr ho)).trans hu)) rfl) z)⟩
  match i,hi with
  |0,_=>exact rgv ((ne _ _ (fun e=>lin 0xc3003103000042003003040180 rfl e) _ _).trans b4)
  |1,_=>exact rgv ((ne _ _ (fun e=>lin 0xc3043103000042003003041180 rfl e) _ _).trans b5)
  |2,_=>exact rgv ((ne _ _ (fun e=>lin 0xc3083103000042003003042180 rfl e) _ _).trans b6)
  |3,_=>exact rgv ((ne _ _ (fun e=>lin 0xc30c3103000042003003043180 rfl e) _ _).trans b7)
  |i+4,h=>exact absurd h (lin 0x103103140000101 rfl _)
 |true=>
  obtain hd:=hk▸hd;have hd:aK P (s+4) [.copy 4 3,.aff 3 1,.mustBeInt 3,.copy 3 4]:=hd
  obtain⟨a,ea⟩:∃a,v.1=some a:=by
   refine iS v.1 (fun e=>?_) fun a e=>?_
   ·exact absurd e (hkv hk)
   ·exact⟨a,rfl⟩
  obtain ek:bJ c u v=a:=by delta bJ;(exact J hk<|J ea rfl)
  refine J ek ?_;have c4:i9 nk (.copy 4 3) p2=some (.next,p2.put 3 (.int a)):=by refine(?_ :some (fY.next,p2.put 3 (p2.reg 4))=_);(refine J (rgv b4)<|J ea ?_);rfl
  obtain c5:i9 nk (.copy 3 4) (p2.put 3 (.int a))=some (.next,(p2.put 3 (.int a)).put 4 (.int a)):=by exact J (rgv (eq 3 p2 (.int a))) rfl
  refine⟨(p2.put 3 (.int a)).put 4 (.int a),fun j hj=>(ne _ _ (by lia) _ _).trans ((ne _ _ (by lia) _ _).trans (FG j hj)),⟨rfl,rfl,rfl⟩,⟨(ne _ _ (fun e=>lin 0x40c30c0045003003040180 rfl e) _ _).trans (eq _ _ _),fun i hi=>?_⟩,fun r q z=>pre r q (ax hd c4 (ax hd.tl rfl (ax hd.tl.tl rfl (ax hd.tl.tl.tl c5 z))))⟩
  match i,hi with
  |0,_=>refine J (show v.col 0=some a from ea) ?_;exact rgv (eq _ _ _)
  |1,_=>exact rgv ((ne _ _ (fun e=>lin 0x103043103000042003003040180 rfl e) _ _).trans ((ne _ _ (fun e=>lin 0xc3043103000042003003041180 rfl e) _ _).trans b5))
  |2,_=>exact rgv ((ne _ _ (fun e=>lin 0x103083103000042003003041180 rfl e) _ _).trans ((ne _ _ (fun e=>lin 0xc3083103000042003003042180 rfl e) _ _).trans b6))
  |3,_=>exact rgv ((ne _ _ (fun e=>lin 0x1030c3103000042003003042180 rfl e) _ _).trans ((ne _ _ (fun e=>lin 0xc30c3103000042003003043180 rfl e) _ _).trans b7))
  |i+4,h=>exact absurd h (lin 0x103103140000101 rfl _)
end
section
variable{T:Tb}
theorem FF(h:aK P s (jq c w st (.int u) (cV v) s k).1)(hk:k=s+(jq c w st (.int u) (cV v) s k).1.length)(hkv:c.keyed=true->v.1≠none)(i:Inv c T p)(co:dp c T)(hz:p.rg 1=some (.int 0))(hn:p.rg 2=some (.int n))(so:qv c (· < 8) st 100000):Rw c P s p w n k T (dB c w T u v)/\qv c (· < 8) (jq c w st (.int u) (cV v) s k).2 (st.R+200):=by
 have h8:=Nat.le_of_not_lt fun h=>so.a _ (QR _) h;have hr:=so.r;let o:=st.R;let A:Nat->Prop:=fun j=>j < 8\/j=o;let hdc:List Op:=lV (cV v) 4++if c.keyed then [.copy 4 3,.aff 3 1,.mustBeInt 3,.copy 3 4] else [.copy o 3]
 let a:List Op:= [.value o (.int u),.seek k o]++lV (cV v) 4++if c.keyed then [.copy 4 3,.aff 3 1,.mustBeInt 3,.copy 3 4] else [.copy o 3]
 have ea:a=.value o (.int u)::.seek k o::hdc:=by show _++_++_=_;refine J (Q5 _ _ _) ?_;rfl
 have la:a.length=hdc.length+1+1:=by refine J ea ?_;rfl
 let ck:=c8 c w (some o) false ⟨st.R+1,st.keys⟩ (s+a.length) k;let m:List Op:= [.seek k o]++iF (aG c) ck.2.R;let pt:=ly c false ⟨ck.2.R+eZ (aG c),ck.2.keys⟩;have h:aK P s (a++(ck.1++(m++pt.1))):=h;have lm:m.length=1+(iF (aG c) ck.2.R).length:=by refine J QI ?_;rfl
 have hk:k=s+(a.length+(ck.1.length+(m.length+pt.1.length))):=by
  (refine aQ (QI)<|aQ (QI)<|aQ (QI) ?_);exact hk
 have k1:bE A (st.R+1) ((aG c).zip st.keys):=fun e he f hf=>by
  refine fp (so.k e he f hf) fun h1 h2 h3=>⟨h1,Nat.lt_succ_of_lt h2,fun j hj hA=>?_⟩
  refine Or.elim hA (fun hA=>?_) fun hA=>?_
  ·exact h3 j hj hA
  ·have:f+j=st.R:=hA;exact ai 0x72050000451880010071850000410030030c0184 rfl h2 hj hA
 have a1:∀j,st.R+1<=j->¬A j:=fun j hj hA=>by
  refine Or.elim hA (fun hA=>?_) fun hA=>?_
  ·exact ai 0x2031800411810c50000401480c00400030030c1182 rfl h8 hj hA
  ·have:j=st.R:=hA;exact ai 0x51800421810c5000040003003080182 rfl hj hA
 have r9:=jf c;refine fi (pw (w:=w) (old:=some o) (s:=s+a.length) (k:=k) (isNew:=false) (st:=⟨st.R+1,st.keys⟩) so.l k1 a1 (by exact ai 0x186a01050010000dbba01000001f41010c5000040001 rfl hr)) fun t1 t2 t3 t4=>?_;have t1:st.R+1<=ck.2.R:=t1;have t2:ck.2.R<=st.R+1+60:=t2;obtain a5:∀j,ck.2.R<=j->¬A j:=fun j hj=>a1 j (ai 0x187001007043140001006043140080003 rfl t1 hj);have a6:∀j,ck.2.R+eZ (aG c)<=j->¬A j:=fun j hj=>a1 j (ai 0x1881c0001007043140001006043140080004 rfl t1 hj);have t5:bE A (ck.2.R+eZ (aG c)) ((aG c).zip ck.2.keys):=t4.up (Nat.le_add_right _ _);refine fi (wq (last:=false) (st:=⟨ck.2.R+eZ (aG c),ck.2.keys⟩) t3 t5 a6 (by exact ai 0x3c0c10c700014004024318004000061a8041c00400036ee804000007d041850000c0003 rfl hr r9 t2)) fun u1 u2 u3 u4=>?_;obtain u1:ck.2.R+eZ (aG c)<=pt.2.R:=u1;obtain u2:=u2;refine⟨?_,⟨u3,fun e he f hf=>⟨(u4 e he f hf).1,(u4 e he f hf).2.1,fun j hj h8=>(u4 e he f hf).2.2 j hj (.inl h8)⟩,fun j hj=>by have:pt.2.R<=j:=hj;exact ai 0x52402002481c00080070431800080062030080080c5108105 rfl h8 t1 u1 this,by exact ai 0xf031c8000140040f030431800080010090c70010000000c81060050c0004 rfl r9 t2 u2⟩⟩;have hc0:aK P s (.value o (.int u)::.seek k o::hdc):=by have:=h.left;rwa [ea] at this
 let p1:=p.put o (.int u);obtain s1:hW p p1:=⟨rfl,rfl,rfl⟩
 have i1:=i.same s1;obtain o1:p1.reg o=.int u:=kN (QM rfl);have lowp:∀j,j < 8->p1.rg j=p.rg j:=fun j hj=>QN (by exact fun e=>ai 0x51800452031800411480c00400030030c0182 rfl h8 hj e);have st1:=(km (nk:=(aG c).length) (t:=k) o1).1;have s2:hW p1 (p1.atp 0 (.int u)):=⟨rfl,rfl,rfl⟩
 delta dB
 cases el:T.lookup u with
 |none=>exact⟨p1.atp 0 (.int u),i1.same s2,(lowp 1 (by decide)).trans hz,(lowp 2 (by decide)).trans hn,rfl,fun r q z=>ax hc0 rfl (dK hc0.tl (by(refine J st1<|J (i1.look _)<|J el ?_);rfl) (ai 0xb2802401c0140180045043043200007001146043140080047 rfl la hk) z)⟩
 |some z0=>
  obtain pre:∀r q,Ex (aG c).length P (s+1+1) (p1.atp 0 (.int u)) r q->Ex (aG c).length P s p r q:=fun r q z=>ax hc0 rfl (ax hc0.tl (by(refine J st1<|J (i1.look _)<|J el ?_);rfl) z);obtain i2:=i1.same s2;refine bA (D2 (nk:=(aG c).length) (p:=p1.atp 0 (.int u)) h8 hkv hc0.tl.tl (QM rfl)) fun p3 f1 f2 f3 f4=>?_;obtain i3:=i2.same f2;have n3:=(f1 2 (.inl (by decide))).trans ((lowp 2 (by decide)).trans hn);have z3:=(f1 1 (.inl (by decide))).trans ((lowp 1 (by decide)).trans hz);have o3:=(f1 o (.inr h8)).trans (QM rfl);have c3:=f2.ch
  have pre3:∀r q,Ex (aG c).length P (s+a.length) p3 r q->Ex (aG c).length P s p r q:=fun r q z=>pre r q (f4 r q (by
   have:s+1+1+hdc.length=s+a.length:=QF (ai 0x10c10c60001c00451c5006043043140000040003 rfl la) (ai 0x10c10c70001800421c10c10c5000006140040003 rfl la);exact J this<|z))
  have ckd:=sr (was:=some u) h.right.left i3 co f3 z3 n3 (fun e=>nomatch e) so.l (fun Y h=>.inl h) o3 (fun o' h=>bt h<| .inr rfl) (fun h=>by obtain this:=Option.some.inj h;exact ai 0x1831400421480c0040003003081181 rfl h8 this) k1 a1 (by exact ai 0x186a01050010000dbba01000001f41010c5000040001 rfl hr) (by exact ai 0xa2401c0180140200045207185000040006 rfl hk);refine(?_ :Rw c P s p w n k T (match d6 c w T (some u) (bJ c u v) v with|.ok q=>.ok ((q.1.filter fun e=>e.1 != u)++ [(bJ c u v,q.2)])|.error e=>.error e));refine qX (d6 c w T (some u) (bJ c u v) v) (fun e2 e=>?_) fun q0 e=>?_
  ·obtain ckd:=e▸ckd
   cases e2 with
   |none=>exact bA ckd fun p' g1 g2 g3 g4=>⟨p',g2,(g1 1 (.inl (by decide)) (fun e=>lin 0x60c10c0045003003044180 rfl e)).trans z3,(g1 2 (.inl (by decide)) (fun e=>lin 0x60c20c0045003003043180 rfl e)).trans n3,g3.trans c3,fun r q z=>pre3 r q (g4 r q z)⟩
   |some kd=>exact bP ckd fun p' g1 g2 g3=>⟨p',g1,g2.trans c3,pre3 _ _ g3⟩
  ·obtain ckd:=e▸ckd;obtain⟨T2,v2⟩:=q0;refine cR ckd fun p4 g1 g2 g3 g4 g5=>?_;obtain n4:=(g1 2 (.inl (by decide)) (fun e=>lin 0x60c20c0045003003043180 rfl e)).trans n3;obtain z4:=(g1 1 (.inl (by decide)) (fun e=>lin 0x60c10c0045003003044180 rfl e)).trans z3;obtain o4:=kN ((g1 o (.inr rfl) (by exact fun e=>ai 0x1831400421480c0040003003081181 rfl h8 e)).trans o3);have l4:=fH g2.nd (GH e (kC el));have hm:=h.right.right.left;obtain st4:=(km o4).1;obtain s5:hW p4 (p4.atp 0 (.int u)):=⟨rfl,rfl,rfl⟩
   refine bA (kt hm.tl (g2.same s5) rfl l4 a5 (ai 0xf030431c00050010090c60010000186a01070010000f42401061400c0003 rfl hr r9 t2)) fun p5 d1 d2 d3 d4=>?_;rw [bF u T2 g2.nd] at d2;obtain hp:=h.right.right.right;have n5:=(d1 2 (.inl (by decide))).trans n4;obtain z5:=(d1 1 (.inl (by decide))).trans z4;refine cR (AK hp d2 (wm e) (g3.keep (fun Y h=>.inl h) d1) n5 t3 (fun Y h=>.inl h) t5 a6 (by exact ai 0x3c0c10c700014004024318004000061a8041c00400036ee8040000064041850000c0003 rfl hr r9 t2)) fun p6 b1 b2 b3 b4 b5=>?_;refine⟨p6,b3,(b1 1 (.inl (by decide)) (fun e=>lin 0x20c10c0045003003040180 rfl e)).trans z5,b2,b4.trans (d3.trans (g4.trans c3)),fun r q z=>pre3 r q (g5 r q (ax hm (by(refine J st4<|J (g2.look _)<|J l4 ?_);rfl) (d4 r q ?_)))⟩;obtain e1:s+a.length+ck.1.length+1+(iF (aG c) ck.2.R).length=s+a.length+ck.1.length+m.length:=QF (ai 0x80430090011491c61400002010c7185000000040005 rfl lm) (ai 0x90430080010890431c61400000081c6140000040005 rfl lm);refine J e1<|b5 r q ?_;obtain e2:s+a.length+ck.1.length+m.length+pt.1.length=k:=QF (ai 0x92001c0180140280045289207185000000040006 rfl hk) (ai 0xa2402001c0180140042289207180000005040006 rfl hk);exact J e2<|z
noncomputable def az(c:fZ)(w:cq):List (Int×bz)->Tb->Nat->Tb×Nat×Option Nat
 | [],T,n=>(T,n,none)
 |v::vs,T,n=>match dB c w T v.1 v.2 with
  |.ok T'=>az c w vs T' (n+1)
  |.error none=>az c w vs T n
  |.error (some kd)=>(T,n,some kd)
noncomputable def qf(v:Int×bz):V×V×V×V×V:=(.int v.1,cV v.2)
theorem kI:∀(vs:List (Int×bz)) (s:Nat) (p:PM) (T:Tb) (n:Nat) (st:St),(∀v∈vs,c.keyed=true->v.2.1≠none)->aK P s (mN c w (vs.map qf) st s)->Inv c T p->dp c T->p.rg 1=some (.int 0)->p.rg 2=some (.int n)->p.ch=0->qv c (· < 8) st (50000 - 200*vs.length)->vs.length<=100->
  ∃q,Ex (aG c).length P s p (oe w (az c w vs T n).2.2) q/\Inv c (az c w vs T n).1 q/\q.ch=Ez w (az c w vs T n).2.1 (az c w vs T n).2.2
 | [],s,p,T,n,st,hv,h,i,co,hz,hn,hc,so,hl=>by refine⟨{p with ch:=p.ch+n},ax h (iK hn) (.halt h.tl.hd),⟨i.rows,i.ks,i.nd⟩,?_⟩;refine(?_ :p.ch+n=_);exact J hc<|Int.zero_add _
 |v::vs,s,p,T,n,st,hv,h,i,co,hz,hn,hc,so,hl=>by
  rw [List.length_cons] at so hl;let k:=s+(jq c w st (.int v.1) (cV v.2) 0 0).1.length;have h:aK P s ((jq c w st (.int v.1) (cV v.2) s k).1++mN c w (vs.map qf) (jq c w st (.int v.1) (cV v.2) s k).2 k):=h;have hk:k=s+(jq c w st (.int v.1) (cV v.2) s k).1.length:=by exact J ((DF _ (cV v.2) s k 0 0).1) rfl
  refine xA (FF h.left hk (hv v (.head _)) i co hz hn ⟨so.l,so.k,so.a,by have:=so.r;exact ai 0x30d4041800401850010000186a0105080002 rfl this (Nat.sub_le _ _)⟩) fun rw' so'=>?_;have h2:aK P k (mN c w (vs.map qf) (jq c w st (.int v.1) (cV v.2) s k).2 k):=by obtain this:=h.right;rwa [<-hk] at this
  have so2:qv c (· < 8) (jq c w st (.int v.1) (cV v.2) s k).2 (50000 - 200*vs.length):=⟨so'.l,so'.k,so'.a,by have:=so'.r;have:=so.r;lia⟩
  refine(?_ :∃q,Ex (aG c).length P s p (oe w (match dB c w T v.1 v.2 with|.ok T'=>az c w vs T' (n+1)|.error none=>az c w vs T n|.error (some kd)=>(T,n,some kd)).2.2) q/\Inv c (match dB c w T v.1 v.2 with|.ok T'=>az c w vs T' (n+1)|.error none=>az c w vs T n|.error (some kd)=>(T,n,some kd)).1 q/\q.ch=Ez w (match dB c w T v.1 v.2 with|.ok T'=>az c w vs T' (n+1)|.error none=>az c w vs T n|.error (some kd)=>(T,n,some kd)).2.1 (match dB c w T v.1 v.2 with|.ok T'=>az c w vs T' (n+1)|.error none=>az c w vs T n|.error (some kd)=>(T,n,some kd)).2.2);refine qX (dB c w T v.1 v.2) (fun e2 e=>?_) fun T' e=>?_
  ·rw [e] at rw'
   cases e2 with
   |none=>exact cR rw' fun p' g1 g2 g3 g4 g5=>bP (kI vs k p' T n _ (fun v h=>hv v (.tail _ h)) h2 g1 co g2 g3 (g4.trans hc) so2 (ai 0x1904043140001000000064105040001 rfl hl)) fun q d1 d2 d3=>⟨q,g5 _ _ d1,d2,d3⟩
   |some kd=>
    refine bP rw' fun p' g1 g2 g3=>⟨_,g3,?_,?_⟩
    ·cases w<;>first|exact g1|exact⟨g1.rows,g1.ks,g1.nd⟩
    ·cases w<;>first|exact g2.trans hc|(refine(?_ :p'.ch+(n:Int)=_);(refine J g2<|J hc ?_);exact Int.zero_add _)
  ·rw [e] at rw';refine cR rw' fun p' g1 g2 g3 g4 g5=>?_
   obtain co':dp c T':=by
    delta dB at e;split at e
    ·exact nomatch e
    ·split at e
     ·rename_i q0 e2;exact MG e<|C6 co e2
     ·exact nomatch e
   exact bP (kI vs k p' T' (n+1) _ (fun v h=>hv v (.tail _ h)) h2 g1 co' g2 g3 (g4.trans hc) so2 (ai 0x1904043140001000000064105040001 rfl hl)) fun q d1 d2 d3=>⟨q,g5 _ _ d1,d2,d3⟩
end
section
variable{T:Tb}
theorem yp(c:fZ)(l:Nat)(hl:l<=100):qv c (· < 8) (Ay c) (50000 - 200*l) where
 l:=by exact J (QJ _) rfl
 k:=fun e he f hf=>by obtain h2:=(List.of_mem_zip he).2;refine an (List.mem_map.mp h2) fun Y Y e2=>?_;rw [<-e2] at hf;exact nomatch hf
 a j hj:=by have:8<=j:=hj;exact ai 0x52030010080c5040101 rfl this
 r:=by refine(?_ :8<=_);omega
theorem Fd(hP:P=Nl++Q)(x:Ex nk P 2 ((p.put 1 (vi 0)).put 2 (vi 0)) r q):Ex nk P 0 p r q:=by subst hP;exact .next rfl rfl (.next rfl rfl x)
theorem DQ(vs:List bz)(hl:vs.length<=100)(i:Inv c T p)(co:dp c T)(hc:p.ch=0):
  ∃q,Ex (aG c).length (xX c w (vs.map cV)) 0 p (oe w (ak c w vs T 0).2.2) q/\Inv c (ak c w vs T 0).1 q/\q.ch=Ez w (ak c w vs T 0).2.1 (ak c w vs T 0).2.2:=by
 refine bP (kT (P:=xX c w (vs.map cV)) vs 2 ((p.put 1 (vi 0)).put 2 (vi 0)) T 0 (Ay c) ⟨[],by refine J (List.append_nil _) ?_;rfl⟩ ⟨i.rows,i.ks,i.nd⟩ co rfl rfl hc (yp c _ hl) hl) fun q h1 h2 h3=>?_;exact⟨q,Fd rfl h1,h2,h3⟩
theorem B8(vs:List (Int×bz))(hv:∀v∈vs,c.keyed=true->v.2.1≠none)(hl:vs.length<=100)(i:Inv c T p)(co:dp c T)(hc:p.ch=0):
  ∃q,Ex (aG c).length (uK c w (vs.map qf)) 0 p (oe w (az c w vs T 0).2.2) q/\Inv c (az c w vs T 0).1 q/\q.ch=Ez w (az c w vs T 0).2.1 (az c w vs T 0).2.2:=by
 refine bP (kI (P:=uK c w (vs.map qf)) vs 2 ((p.put 1 (vi 0)).put 2 (vi 0)) T 0 (Ay c) hv ⟨[],by refine J (List.append_nil _) ?_;rfl⟩ ⟨i.rows,i.ks,i.nd⟩ co rfl rfl hc (yp c _ hl) hl) fun q h1 h2 h3=>?_;exact⟨q,Fd rfl h1,h2,h3⟩
theorem qI:∀(vs:List bz) (T:Tb) (n:Nat),dp c T->(T.map (·.1)).Nodup->dp c (ak c w vs T n).1/\((ak c w vs T n).1.map (·.1)).Nodup
 | [],T,n,co,nd=>⟨co,nd⟩
 |v::vs,T,n,co,nd=>by
  refine(?_ :dp c (match cb c w T v with|.ok T'=>ak c w vs T' (n+1)|.error none=>ak c w vs T n|.error (some kd)=>(T,n,some kd)).1/\((match cb c w T v with|.ok T'=>ak c w vs T' (n+1)|.error none=>ak c w vs T n|.error (some kd)=>(T,n,some kd)).1.map fun e:Int×bz=>e.1).Nodup)
  cases e:cb c w T v with
  |error e2=>
   cases e2 with
   |none=>exact qI vs T n co nd
   |some kd=>exact⟨co,nd⟩
  |ok T'=>
   delta cb at e;refine qX (d6 c w T none (a_ c T v) (bN c T v)) (fun Y e2=>?_) fun q0 e2=>?_
   ·rw [e2] at e;exact nomatch e
   ·rw [e2] at e;obtain rfl:=Except.ok.inj e;refine qI vs _ (n+1) (vT co e2) ?_;refine J List.map_append<|jj List.nodup_append ?_;refine⟨?_,by simp,fun y hy z hz e=>?_⟩
    ·exact J (dA e2)<|((List.filter_sublist.trans List.filter_sublist).map _).nodup nd
    ·cases List.mem_singleton.mp hz;exact qu e2 (by obtain e:y=a_ c T v:=e;exact aQ e<|hy)
end
section
set_option maxRecDepth 100000
open PySem
def cn{α:Type}(c:(α->Hp->KX)->KX):Prop:=(∃a h,∀k,c k=k a h)\/∀k,c k=none
def gv(c:KL->KL->KV->KX):Prop:=(∃m h,∀kn kb kr,c kn kb kr=kn m h)\/(∃m h,∀kn kb kr,c kn kb kr=kb m h)\/(∃v h,∀kn kb kr,c kn kb kr=kr v h)\/∀kn kb kr,c kn kb kr=none
section
variable{α β γ:Type}
theorem au:cn (fun k=>k a h):=.inl ⟨a,h,fun Y=>rfl⟩
theorem aC:cn (fun _:α->Hp->KX=>none):=.inr fun Y=>rfl
theorem aO{d:α->Hp->(β->Hp->KX)->KX}(hc:cn c)(hd:∀a h,cn (d a h)):cn (fun k=>c fun a h=>d a h k):=by
 refine Or.elim hc (fun ρ=>?_) fun e=>?_
 ·refine ij ρ fun a h e=>Or.elim (hd a h) (fun ρ=>?_) fun e2=>?_
  ·exact ij ρ fun b h2 e2=>.inl ⟨b,h2,fun k=>(e _).trans (e2 k)⟩
  ·exact .inr fun k=>(e _).trans (e2 k)
 ·exact .inr fun k=>e _
theorem aA{d:β->(α->Hp->KX)->KX}(hd:∀b,cn (d b)):cn (fun k=>ag o fun b=>d b k):=con o (aC) (fun b=>hd b)
theorem jg{d:β->(α->Hp->KX)->KX}(hc:cn c)(hd:∀b,cn (d b)):cn (fun k=>@Option.rec β (fun Y=>KX) (c k) (fun b=>d b k) o):=con o (hc) (fun b=>hd b)
theorem cK(hc:cn c)(hd:cn d):cn (fun k=>ay b (c k) (d k)):=rt b (hc) (hd)
theorem cP(hc:cn c):cn (fun k=>bg b (c k)):=rt b (hc) (aC)
theorem q_(hc:cn c)(hd:cn d):cn (fun k=>@Bool.rec (fun Y=>KX) (c k) (d k) b):=rt b (hd) (hc)
theorem mJ{d:Nat->aB->(α->Hp->KX)->KX}(hc:cn c)(hd:∀i o,cn (d i o)):cn (fun k=>CG h v (c k) fun i o=>d i o k):=by cases v<;>first|exact hc|exact jg hc (hd _)
theorem jC{d:Nat->List V->Nat->(α->Hp->KX)->KX}(hc:cn c)(hd:∀i l n,cn (d i l n)):cn (fun k=>hL h v (c k) fun i l n=>d i l n k):=mJ (d:=fun i o k=>dR o (c k) fun l n=>d i l n k) hc fun i o=>by cases o<;>first|exact hc|exact hd _ _ _
theorem AI{d:Nat->Bool->Nat->List (V×V×V×V×V)->(α->Hp->KX)->KX}(hc:cn c)(hd:∀i u l n,cn (d i u l n)):cn (fun k=>gi h v (c k) fun i u l n=>d i u l n k):=mJ (d:=fun i o k=>EZ o (c k) fun u l n=>d i u l n k) hc fun i o=>by cases o<;>first|exact hc|exact hd _ _ _ _
theorem g_{d:Nat->List (Int×V)->Nat->(α->Hp->KX)->KX}(hc:cn c)(hd:∀i l n,cn (d i l n)):cn (fun k=>iD h v (c k) fun i l n=>d i l n k):=mJ (d:=fun i o k=>oI o (c k) fun l n=>d i l n k) hc fun i o=>by cases o<;>first|exact hc|exact hd _ _ _
theorem MJ{d:Nat->List (Nat×V)->Nat->(α->Hp->KX)->KX}(hc:cn c)(hd:∀i l n,cn (d i l n)):cn (fun k=>rZ h v (c k) fun i l n=>d i l n k):=mJ (d:=fun i o k=>oL o (c k) fun l n=>d i l n k) hc fun i o=>by cases o<;>first|exact hc|exact hd _ _ _
theorem H0{d:Nat->Nat->List (Nat×V)->(α->Hp->KX)->KX}(hc:cn c)(hd:∀i l n,cn (d i l n)):cn (fun k=>ip h v (c k) fun i l n=>d i l n k):=mJ (d:=fun i o k=>yi o (c k) fun l n=>d i l n k) hc fun i o=>by cases o<;>first|exact hc|exact hd _ _ _
theorem CR{d:Int->Int->(α->Hp->KX)->KX}(hc:cn c)(hd:∀a b,cn (d a b)):cn (fun k=>Gv v (c k) fun a b=>d a b k):=by cases v<;>first|exact hc|exact hd _ _
theorem Ck{d:Expr->List (Nat×V)->(α->Hp->KX)->KX}(hc:cn c)(hd:∀a b,cn (d a b)):cn (fun k=>Gx v (c k) fun a b=>d a b k):=by cases v<;>first|exact hc|exact hd _ _
theorem j7{d:V->Hp->(α->Hp->KX)->KX}(hd:∀v h,cn (d v h)):cn (fun k=>dt h o fun v h=>d v h k):=by cases h;exact hd _ _
theorem Cg{h:Hp}{d:(Nat->Option aB)->Nat->Tr->Nat->List Nat->(α->Hp->KX)->KX}(hd:∀a b t n u,cn (d a b t n u)):cn (fun k=>h.cas fun a b t n u=>d a b t n u k):=by cases h;exact hd _ _ _ _ _
theorem bw{d:β->List β->(α->Hp->KX)->KX}(hc:cn c)(hd:∀a r,cn (d a r)):cn (fun k=>@List.casesOn β (fun Y=>KX) l (c k) fun a r=>d a r k):=JT l (hc) (fun a r=>hd a r)
theorem mA{d:V->It->(α->Hp->KX)->KX}(hc:cn c)(hd:∀v t,cn (d v t)):cn (fun k=>eQ t h (c k) fun v t=>d v t k):=by
 cases t with
 |l xs=>exact bw hc fun Y Y=>hd _ _
 |r lo hi=>exact q_ hc (hd _ _)
 |d a i n ep=>exact g_ (d:=fun Y es q k=>bg _ (@Option.rec _ (fun Y=>KX) (c k) (fun p=>@Prod.casesOn Int V (fun Y=>KX) p fun x Y=>d (.int x) (.d a (Nat.succ i) n ep) k) (lN es i))) aC fun Y es q=>cP (jg hc fun p=>by cases p;exact hd _ _)
 |g up cs=>exact bw hc fun Y Y=>hd _ _
theorem oV{d:Nat->It->Hp->(α->Hp->KX)->KX}(hd:∀n t h,cn (d n t h)):cn (fun k=>bR h a fun n t h=>d n t h k):=
 jC (jg (CR (g_ (AI aC fun Y Y Y Y=>hd _ _ _) fun Y Y Y=>hd _ _ _) fun Y Y=>cP (hd _ _ _)) fun Y=>hd _ _ _) fun Y Y Y=>hd _ _ _
end
theorem yF:cn (fun k=>eV f a h k):=by
 delta eV
 match f with
 |0=>exact jC (aA fun Y=>cP au) fun Y Y Y=>cP au
 |1=>exact aA fun Y=>cP au
 |2=>exact aA fun Y=>aA fun Y=>cP (bw aC fun Y Y=>au)
 |3=>exact jg (aA fun Y=>au) fun Y=>au
 |4=>exact g_ aC fun Y Y Y=>cP au
 |5=>exact g_ aC fun Y Y Y=>cP (j7 fun Y Y=>au)
 |6=>exact aA fun Y=>cP au
 |7=>exact g_ (aA fun Y=>aA fun Y=>cP au) fun Y Y Y=>cP au
 |8=>exact aA fun Y=>cP (aA fun Y=>au)
 |n+9=>exact aC
theorem to{d:Int->Int->(α->Hp->KX)->KX}(hd:∀i j,cn (d i j)):cn (fun k=>n6 a b fun i j=>d i j k):=aA fun Y=>aA fun Y=>hd _ _
theorem Bw:cn (fun k=>Ed f a b h k):=by
 delta Ed
 match f with
 |0=>exact aC
 |1=>exact to fun Y Y=>cP au
 |2=>exact to fun Y Y=>au
 |n+3=>exact aC
theorem Dy{xs:List V}:cn (fun k=>gT f xs h k):=bw aC fun Y Y=>bw yF fun Y Y=>bw Bw fun Y Y=>aC
theorem CU:cn (fun k=>Ng f a x h k):=by
 delta Ng
 match f with
 |0=>exact jC aC fun Y Y Y=>cP au
 |1=>exact jC aC fun Y Y Y=>cP (aA fun Y=>aA fun Y=>au)
 |2=>exact aA fun Y=>au
 |3=>exact g_ aC fun Y Y Y=>aA fun Y=>aA fun Y=>cP au
 |4=>exact aA fun Y=>cP (aA fun Y=>aA fun Y=>cP au)
 |n+5=>exact aC
theorem Dz:cn (fun k=>IM f a x b h k):=by
 delta IM
 match f with
 |0=>exact aC
 |1=>exact aC
 |2=>exact aA fun Y=>au
 |3=>exact g_ aC fun Y Y Y=>aA fun Y=>cP (jg au fun Y=>au)
 |n+4=>exact aC
theorem G5{xs:List V}:cn (fun k=>IQ f a xs h k):=bw aC fun Y Y=>bw CU fun Y Y=>bw Dz fun Y Y=>aC
def mP(f:SE):Prop:=∀m h,cn (f m h)
def J8(f:yd):Prop:=∀m h,cn (f m h)
def Ej(f:ST):Prop:=∀m h v,cn (f m h v)
def Eg(f:SS):Prop:=∀m h,gv (f m h)
def uD(O:CK):Prop:=∀fn xs h,cn (O fn xs h)
section
variable{O:CK}
theorem i6{d:V->V->Hp->(α->Hp->KX)->KX}(he:mP e)(hf:mP f)(hd:∀x y h,cn (d x y h)):cn (fun k=>yc e f m h fun x y h=>d x y h k):=aO (he m h) fun a h=>aO (hf m h) fun b h=>hd a b h
theorem ku{ts:List Nat}(hc:mP c)(he:mP e):∀(n:Nat) (t:It) (m:Loc) (h:Hp) (bx:List V) (l:Nat),cn (fun k=>d8 tu ts c e n t m h bx l fun rs c h=>k (rs,c) h)
 |0,t,m,h,bx,l=>mA (c:=fun k=>k (bx,l) h) au fun Y Y=>aC
 |n+1,t,m,h,bx,l=>mA (c:=fun k=>k (bx,l) h) (d:=fun v t k=>ag (wH tu ts h v m) fun m=>c m h fun b h=>ag (vBool b) fun b=>ay b (e m h fun x h=>ay (Nat.blt l 60000) (d8 tu ts c e n t m h (x::bx) (Nat.succ l) fun rs c h=>k (rs,c) h) none) (d8 tu ts c e n t m h bx l fun rs c h=>k (rs,c) h)) au fun v t=>aA fun m=>
  aO (hc m h) fun b h=>aA fun b=>cK (aO (he m h) fun x h=>cK (ku hc he n t m h _ _) aC) (ku hc he n t m h _ _)
theorem yz{fr ts:List Nat}(hi:mP f)(hc:mP c)(he:mP e):mP (kY mu fr tu ts f c e):=fun m h=>aO (c:=f m h) (hi m h) fun a h=>aA fun l=>oV fun n t h₁=>
 aO (d:=fun p h' k=>ay mu (dt (be h a h') (.list p.1 p.2) k) (k (.fl (bC p.1)) (be h a h'))) (ku hc he n t _ h₁ [] 0) fun p h'=>cK (j7 (d:=fun v h k=>k v h) fun Y Y=>au) au
theorem fh(ci:uD O)(x:X):mP (bS O x)/\J8 (oW O x):=by
 have noE':mP MD:=fun m h=>aC;have noL':J8 lG:=fun m h=>aC
 induction x with
 |bad=>exact⟨noE',noL'⟩
 |var c=>exact⟨fun m h=>aA fun v=>au,noL'⟩
 |val v=>exact⟨fun m h=>au,noL'⟩
 |u o a ha=>
  refine⟨fun m h=>?_,noL'⟩;have ha:=ha.1
  cases o with
  |attr f=>exact aO (c:=bS O a m h) (ha m h) fun a h=>aA fun v=>au
  |neg=>exact aO (c:=bS O a m h) (ha m h) fun a h=>aA fun v=>au
  |not=>exact aO (c:=bS O a m h) (ha m h) fun a h=>aA fun v=>au
  |tst=>exact aO (c:=bS O a m h) (ha m h) fun a h=>aA fun v=>au
 |b o a b ha hb=>
  refine⟨fun m h=>?_,noL'⟩
  cases o with
  |bin op=>exact i6 ha.1 hb.1 fun x y h=>aA fun v=>au
  |cmp op=>exact i6 ha.1 hb.1 fun x y h=>aA fun v=>au
  |sub=>exact i6 ha.1 hb.1 fun x y h=>aA fun v=>au
  |sfr=>exact i6 ha.1 hb.1 fun x y h=>aA fun v=>au
  |sto=>exact i6 ha.1 hb.1 fun x y h=>aA fun v=>au
 |bl s a b ha hb=>exact⟨fun m h=>aO (c:=bS O a m h) (ha.1 m h) fun v h=>aA fun t=>cK (hb.1 m h) au,noL'⟩
 |ite c a b hc ha hb=>exact⟨fun m h=>aO (c:=bS O c m h) (hc.1 m h) fun v h=>aA fun t=>cK (ha.1 m h) (hb.1 m h),noL'⟩
 |c o as ha=>
  refine⟨fun m h=>?_,noL'⟩;have ha:=ha.2
  cases o with
  |fn f=>exact aO (c:=oW O as m h) (ha m h) fun xs h=>ci _ _ _
  |cls c=>exact aO (c:=oW O as m h) (ha m h) fun xs h=>aA fun f=>j7 fun r h=>aO (ci _ _ _) fun v h=>aA fun b=>cK au aC
  |blt f=>exact aO (c:=oW O as m h) (ha m h) fun xs h=>Dy
  |lst mu=>exact aO (c:=oW O as m h) (ha m h) fun xs h=>cK (j7 fun Y Y=>au) au
  |tup=>exact aO (c:=oW O as m h) (ha m h) fun xs h=>au
  |dct ks=>exact aO (c:=oW O as m h) (ha m h) fun xs h=>aA fun o=>j7 fun Y Y=>au
 |m a f g as ha has=>exact⟨fun m h=>aO (c:=bS O a m h) (ha.1 m h) fun a h=>H0 (aA fun j=>cK (aO (has.2 m h) fun xs h=>G5) aC) fun Y c fs=>aA fun g=>aO (c:=oW O as m h) (has.2 m h) fun xs h=>ci _ _ _,noL'⟩
 |app a as ha has=>exact⟨fun m h=>aO (c:=bS O a m h) (ha.1 m h) fun a h=>Ck aC fun l env=>aO (has.2 m h) fun xs h=>ci _ _ _,noL'⟩
 |comp mu fr tu ts it c e hi hc he=>exact⟨yz hi.1 hc.1 he.1,noL'⟩
 |nil=>exact⟨noE',fun m h=>au⟩
 |cons a r ha hr=>exact⟨noE',fun m h=>aO (c:=bS O a m h) (ha.1 m h) fun x h=>aO (hr.2 m h) fun xs h=>au⟩
theorem qQ(ci:uD O)(t:T):Ej (hU O t):=by
 intro m h v
 cases t with
 |var ce c=>exact q_ au (jg au fun Y=>aC)
 |attr a f=>exact aO (c:=bS O a m h) ((fh ci a).1 m h) fun a h=>aA fun h=>au
 |sub a i=>exact i6 (fh ci a).1 (fh ci i).1 fun x y h=>aA fun h=>au
 |bad=>exact aC
theorem sX(ci:uD O):∀(ts:List T) (xs:List V) (m:Loc) (h:Hp),cn (fun k=>B4 O ts xs m h k)
 | [],xs,m,h=>bw au fun Y Y=>aC
 |t::ts,xs,m,h=>bw (d:=fun x xs k=>hU O t m h x fun m h=>B4 O ts xs m h k) aC fun x xs=>aO (qQ ci t m h x) fun m h=>sX ci ts xs m h
theorem rT(ci:uD O)(ts:List T):Ej (cr O ts):=fun m h v=>aA fun xs=>cK (sX ci ts xs m h) aC
theorem np:gv fun Y Y Y=>none:=.inr (.inr (.inr fun Y Y Y=>rfl))
theorem k8:gv fun kn Y Y=>kn m h:=.inl ⟨m,h,fun Y Y Y=>rfl⟩
theorem gf{c:(α->Hp->KX)->KX}{d:α->Hp->KL->KL->KV->KX}(hc:cn c)(hd:∀a h,gv (d a h)):gv (fun kn kb kr=>c fun a h=>d a h kn kb kr):=by
 refine Or.elim hc (fun ρ=>?_) fun e=>?_
 ·exact ij ρ fun a h e=>(hd a h).imp (fun⟨m,h,q⟩=>⟨m,h,fun Y Y Y=>(e _).trans (q _ _ _)⟩) fun z=>z.imp (fun⟨m,h,q⟩=>⟨m,h,fun Y Y Y=>(e _).trans (q _ _ _)⟩) fun z=>z.imp (fun⟨m,h,q⟩=>⟨m,h,fun Y Y Y=>(e _).trans (q _ _ _)⟩) fun q Y Y Y=>(e _).trans (q _ _ _)
 ·exact .inr (.inr (.inr fun Y Y Y=>e _))
theorem F3{c:KL->KL->KV->KX}{d:Loc->Hp->KL->KL->KV->KX}(hc:gv c)(hd:∀a h,gv (d a h)):gv (fun kn kb kr=>c (fun a h=>d a h kn kb kr) kb kr):=by
 refine Or.elim hc (fun ρ=>?_) fun ρ=>Or.elim ρ (fun ρ=>?_) fun ρ=>Or.elim ρ (fun ρ=>?_) fun e=>?_
 ·exact ij ρ fun a h e=>(hd a h).imp (fun⟨m,h,q⟩=>⟨m,h,fun Y Y Y=>(e _ _ _).trans (q _ _ _)⟩) fun z=>z.imp (fun⟨m,h,q⟩=>⟨m,h,fun Y Y Y=>(e _ _ _).trans (q _ _ _)⟩) fun z=>z.imp (fun⟨m,h,q⟩=>⟨m,h,fun Y Y Y=>(e _ _ _).trans (q _ _ _)⟩) fun q Y Y Y=>(e _ _ _).trans (q _ _ _)
 ·exact ij ρ fun a h e=>.inr (.inl ⟨a,h,fun Y Y Y=>e _ _ _⟩)
 ·exact ij ρ fun a h e=>.inr (.inr (.inl ⟨a,h,fun Y Y Y=>e _ _ _⟩))
 ·exact .inr (.inr (.inr fun Y Y Y=>e _ _ _))
theorem pA{d:β->KL->KL->KV->KX}(hd:∀b,gv (d b)):gv (fun kn kb kr=>ag o fun b=>d b kn kb kr):=con o (np) (fun b=>hd b)
theorem KG{c:(V->Hp->KX)->KX}(hc:cn c):gv fun Y Y kr=>c kr:=hc.elim (fun⟨v,h,e⟩=>.inr (.inr (.inl ⟨v,h,fun Y Y kr=>e kr⟩))) fun e=>.inr (.inr (.inr fun Y Y kr=>e kr))
theorem ul{c:(Loc->Hp->KX)->KX}(hc:cn c):gv fun kn Y Y=>c kn:=hc.elim (fun⟨v,h,e⟩=>.inl ⟨v,h,fun kn Y Y=>e kn⟩) fun e=>.inr (.inr (.inr fun kn Y Y=>e kn))
theorem CE{c:KL->KL->KV->KX}{b:Hp->Hp}(hc:gv c):gv fun kn Y kr=>c (fun m h=>kn m (b h)) (fun m h=>kn m (b h)) fun v h=>kr v (b h):=by
 refine Or.elim hc (fun ρ=>?_) fun ρ=>Or.elim ρ (fun ρ=>?_) fun ρ=>Or.elim ρ (fun ρ=>?_) fun e=>?_
 ·obtain⟨a,h,e⟩:=ρ;exact .inl ⟨a,b h,fun Y Y Y=>e _ _ _⟩
 ·exact ij ρ fun a h e=>.inl ⟨a,b h,fun Y Y Y=>e _ _ _⟩
 ·exact ij ρ fun a h e=>.inr (.inr (.inl ⟨a,b h,fun Y Y Y=>e _ _ _⟩))
 ·exact .inr (.inr (.inr fun Y Y Y=>e _ _ _))
set_option tactic.hygienic true in
theorem HP{t:ST}{b:SS}(ht:Ej t)(hb:Eg b):∀(n:Nat) (it:It) (m:Loc) (h:Hp),gv fun kn kb kr=>dw t b n it m h kn kr:=by
 intro n
 induction n with
 |zero=>exact fun it m h=>ul (c:=fun kn=>eQ it h (kn m h) fun Y Y=>none) (mA au fun Y Y=>aC)
 |succ n ih=>
  intro it m h
  have go:∀v it',gv fun kn kb kr=>t m h v fun m h=>b m h (fun m h=>dw t b n it' m h kn kr) kn kr:=fun v it'=>gf (ht m h v) fun m h=>by
   refine Or.elim (hb m h) (fun ρ=>?_) fun ρ=>Or.elim ρ (fun ρ=>?_) fun ρ=>Or.elim ρ (fun ρ=>?_) fun e=>?_
   ·exact ij ρ fun a h e=>(ih it' a h).imp (fun⟨m,h,q⟩=>⟨m,h,fun Y kb Y=>(e _ _ _).trans (q _ kb _)⟩) fun z=>z.imp (fun⟨m,h,q⟩=>⟨m,h,fun Y kb Y=>(e _ _ _).trans (q _ kb _)⟩) fun z=>z.imp (fun⟨m,h,q⟩=>⟨m,h,fun Y kb Y=>(e _ _ _).trans (q _ kb _)⟩) fun q Y kb Y=>(e _ _ _).trans (q _ kb _)
   ·exact ij ρ fun a h e=>.inl ⟨a,h,fun Y Y Y=>e _ _ _⟩
   ·exact ij ρ fun a h e=>.inr (.inr (.inl ⟨a,h,fun Y Y Y=>e _ _ _⟩))
   ·exact .inr (.inr (.inr fun Y Y Y=>e _ _ _))
  refine(?_ :gv fun kn kb kr=>eQ it h (kn m h) fun v it=>t m h v fun m h=>b m h (fun m h=>dw t b n it m h kn kr) kn kr)
  cases it with
  |l xs=>cases xs with
   |nil=>exact k8
   |cons x r=>exact go _ _
  |r lo hi=>
   refine(?_ :gv fun kn kb kr=>@Bool.rec (fun Y=>KX) (kn m h) (t m h (.int lo) fun m h=>b m h (fun m h=>dw t b n (.r (Int.add lo 1) hi) m h kn kr) kn kr) (decide (lo < hi)));refine rt (decide (lo < hi)) ?_ ?_
   ·exact go _ _
   ·exact k8
  |d a i l ep=>
   have key:∀(j:Nat) (es:List (Int×V)) (q:Nat),gv fun kn kb kr=>bg (and (Nat.beq q ep) (Nat.beq (aq es) l)) (@Option.rec (Int×V) (fun Y=>KX) (kn m h) (fun p=>@Prod.casesOn Int V (fun Y=>KX) p fun x Y=>t m h (.int x) fun m h=>b m h (fun m h=>dw t b n (.d a (Nat.succ i) l ep) m h kn kr) kn kr) (lN es i)):=fun Y es q=>by
    refine rt (and (Nat.beq q ep) (Nat.beq (aq es) l)) ?_ ?_
    ·cases lN es i with
     |none=>exact k8
     |some p=>cases p;exact go _ _
    ·exact np
   cases a<;>first|exact np|skip
   rename_i k;refine(?_ :gv fun kn kb kr=>@Option.rec aB (fun Y=>KX) none _ (h.obj k));refine con (h.obj k) ?_ fun o=>?_
   ·exact np
   ·cases o<;>first|exact np|exact key k _ _
  |g up cs=>cases cs with
   |nil=>exact k8
   |cons x r=>exact go _ _
theorem sB{b:SS}{i:SE}(ht:Ej t)(hi:mP i)(hb:Eg b):Eg (qk t i b):=fun m h=>gf (hi m h) fun a h=>
 gf (c:=fun k=>bR h a fun n it h=>k (n,it) h) (oV fun Y Y Y=>au) fun p h₁=>CE (HP ht hb p.1 p.2 m h₁)
theorem Dt(ci:uD O)(s:S):Eg (aF O s):=by
 induction s with
 |skip=>exact fun m h=>k8
 |seq a b ha hb=>exact fun m h=>F3 (c:=aF O a m h) (ha m h) fun m h=>hb m h
 |ex a=>exact fun m h=>gf (c:=bS O a m h) ((fh ci a).1 m h) fun Y h=>k8
 |asg t e=>exact fun m h=>gf (c:=bS O e m h) ((fh ci e).1 m h) fun v h=>ul (qQ ci t m h v)
 |tup ts e=>exact fun m h=>gf (c:=bS O e m h) ((fh ci e).1 m h) fun v h=>ul (rT ci ts m h v)
 |sw cs e=>exact fun m h=>gf (c:=bS O e m h) ((fh ci e).1 m h) fun v h=>pA fun vs=>pA fun m=>k8
 |lam c fr ln l=>
  intro m h;cases h with|mk lo b t n u=>
  refine(?_ :gv fun kn kb kr=>@Bool.rec (fun Y=>KX) (ag (fL m fr) fun e=>kn (ae (ae m c (.clo l e)) 0 .none) (Hp.use ⟨lo,b,t,n,u⟩ ln)) none (ji u ln));refine rt (ji u ln) ?_ ?_
  ·exact np
  ·exact pA fun e=>k8
 |ite c a b ha hb=>
  exact fun m h=>gf (c:=bS O c m h) ((fh ci c).1 m h) fun v h=>pA fun t=>by
   refine rt t ?_ ?_
   ·exact ha m h
   ·exact hb m h
 |for1 t i b hb=>exact sB (qQ ci t) (fh ci i).1 hb
 |for2 ts i b hb=>exact sB (rT ci ts) (fh ci i).1 hb
 |ret e=>exact fun m h=>KG ((fh ci e).1 m h)
 |brk=>exact fun m h=>.inr (.inl ⟨m,h,fun Y Y Y=>rfl⟩)
 |bad=>exact fun m h=>np
theorem lP{d:Loc->(β->Hp->KX)->KX}(hd:∀m,cn (d m)):∀(ps:List (Nat×Option V)) (m:Loc) (xs:List V),cn (fun k=>nN ps m xs fun m=>d m k)
 | [],m,[]=>hd m
 | [],m,_::_=>aC
 |(c,none)::ps,m,[]=>aC
 |(c,some o)::ps,m,[]=>lP hd ps (ae m c o) []
 |(c,o)::ps,m,x::xs=>lP hd ps (ae m c x) xs
theorem rN:∀(xs:List V) (h:Hp),cn (fun k=>nW xs h k)
 | [],h=>au
 |x::xs,h=>jC (d:=fun i rs Y k=>nW xs (h.set i .gone) fun vs h=>k (V.fl (bC rs)::vs) h) aC fun i rs Y=>aO (rN xs _) fun vs h=>au
theorem zf(ci:uD O)(r:FR)(xs:List V)(h:Hp):cn (bG O r xs h):=by
 cases r with|mk ps b=>
 refine lP (fun m=>?_) ps _ xs;refine Or.elim (Dt ci b m h) (fun ρ=>?_) fun ρ=>Or.elim ρ (fun ρ=>?_) fun ρ=>Or.elim ρ (fun ρ=>?_) fun e=>?_
 ·exact ij ρ fun a h e=>.inl ⟨_,h,fun Y=>e _ _ _⟩
 ·exact ij ρ fun a h e=>.inr fun Y=>e _ _ _
 ·exact ij ρ fun a h e=>.inl ⟨_,h,fun Y=>e _ _ _⟩
 ·exact .inr fun Y=>e _ _ _
theorem pH{d:Hp->(α->Hp->KX)->KX}(hd:∀h,cn (d h)):cn (fun k=>gG b h fun h=>d h k):=Cg fun Y Y Y Y Y=>cK (hd _) aC
theorem sv{d:Hp->(α->Hp->KX)->KX}(hd:∀h,cn (d h)):cn (fun k=>gq up l xs h fun h=>d h k):=
 bw aC fun Y r=>bw (d:=fun o Y k=>hL h o (gi h o none fun Y Y Y Y=>d h k) fun i rs Y=>ag (lA up (bC rs)) fun cs=>d (h.set i (.rows up l cs)) k) aC fun o Y=>jC (AI aC fun Y Y Y Y=>hd h) fun i rs Y=>aA fun cs=>hd _
theorem oJ:∀n,uD (aS n)
 |0=>fun Y Y Y=>aC
 |n+1=>by
  have ih:=oJ n;intro fn xs h
  cases fn with
  |clo l env=>
   refine(?_ :cn fun k=>runC (aS n) l env xs h k);refine AB (P:=cn) l aC fun Y Y Y Y Y=>(?_ :cn fun k=>ay (CW _ _) (nN _ (dJ env) xs fun m=>bS (aS n) _ m h k) none)
   exact cK (lP (fun m=>(fh ih _).1 m h) _ _ _) aC
  |fn f=>
   refine aA fun r=>?_;have rs:=fun xs h=>zf ih r xs h;refine(?_ :cn fun k=>zr (bG (aS n) r xs h k) (gq false 2 xs h fun h=>gG 1024 h fun h=>bG (aS n) r xs h k) (gq true 3 xs h fun h=>gG 1024 h fun h=>bG (aS n) r xs h k) (gG 4096 h fun h=>bG (aS n) r xs h k) (yU xs h fun xs h=>bG (aS n) r xs h k) (@Bool.rec (fun Y=>KX) (GM (aS n) xs h k) (yW xs h k) (Nat.beq f 53)) (I9 f))
   match I9 f with
   |0=>exact rs _ _
   |1=>exact sv (d:=fun h k=>gG 1024 h fun h=>bG (aS n) r xs h k) fun h=>pH fun h=>rs _ _
   |2=>exact sv (d:=fun h k=>gG 1024 h fun h=>bG (aS n) r xs h k) fun h=>pH fun h=>rs _ _
   |3=>exact pH fun h=>rs _ _
   |4=>exact bw (d:=fun s r' k=>@List.casesOn V (fun Y=>KX) r' none fun o r'=>um h o fun v h=>bG (aS n) r (s::v::r') h k) aC fun s r'=>bw aC fun o r'=>jC (d:=fun i rs' Y k=>nW (bC rs') (h.set i .gone) fun vs h=>bG (aS n) r (s::.fl vs::r') h k) aC fun i rs' Y=>aO (rN _ _) fun vs h=>rs _ _
   |j+5=>
    exact cK (bw aC fun x r=>bw (aA fun n=>cK au aC) fun Y Y=>aC)
     (bw aC fun x r=>bw (aA fun m=>cK (aO (ih _ _ _) fun v h=>aA fun c=>cK au aC) aC) fun Y Y=>aC)
end
abbrev R5:=V×V×V×V×V
noncomputable def KF(v:V):Option (List V):=@V.casesOn (fun Y=>Option (List V)) v none (fun Y=>none) (fun Y=>none) (fun Y=>none) (fun Y=>none) (fun Y=>none) (fun Y=>none) some (fun Y=>none) (fun Y Y=>none) (fun Y=>none) fun Y Y=>none
def Lf(v:V):V:=@Option.rec (List V) (fun Y=>V) v (fun l=>@List.casesOn V (fun Y=>V) l v fun x r=>@List.casesOn V (fun Y=>V) r v fun Y r=>@List.casesOn V (fun Y=>V) r (.tup [x]) fun Y Y=>v) (iJ v)
def I8(v:V):V:=@Option.rec (List V) (fun Y=>V) v (fun l=>@List.casesOn V (fun Y=>V) l v fun nm r=>@Option.rec Nat (fun Y=>V) v (fun n=>@Bool.rec (fun Y=>V) (@Bool.rec (fun Y=>V) v (@Option.rec V (fun Y=>V) v (fun d=>.fl (nm::pY (Lf d) r 3)) (lN r 3)) (Nat.beq n 1818845510)) (.fl (nm::pY .none r 3)) (Nat.beq n 8751735898823353921)) (di nm)) (KF v)
def li(h:Hp)(is:List V):Option (List V):=@List.rec V (fun Y=>Option (List V)) (some []) (fun i Y ih=>aj (mQ i) fun j=>bg (Nat.blt j 4096) (aj (bO h i 32491038722256739) fun c=>aj ih fun r=>some (c::r))) is
def BX(h:Hp)(l:List V):Nat->Option (List V):=@List.rec V (fun Y=>Nat->Option (List V)) (fun Y=>some []) (fun v Y ih lo=>aj (mQ v) fun j=>bg (and (Nat.blt lo j) (Nat.blt j 4096)) (aj (h.obj j) fun o=>dR o none fun rs Y=>aj (ih j) fun r=>some (.fl (bC rs)::r))) l
def Gy(x:Nat)(l:List V):Bool:=@List.rec V (fun Y=>Bool) true (fun v Y ih=>@Option.rec Nat (fun Y=>Bool) false (fun j=>@Bool.rec (fun Y=>Bool) ih false (Nat.beq j x)) (mQ v)) l
def Pr(h:Hp)(os:List V)(o:V)(k:List V->KX):KX:=hL h o none fun i rs n=>ay (and (and (Nat.blt i 4096) (Nat.beq n (aq rs))) (Gy i os)) (k (bC rs)) none
def MT(h:Hp)(o:V)(k:List (Nat×V)->KX):KX:=ip h o none fun i Y fs=>ay (Nat.blt i 4096) (k fs) none
def vw(v:V)(h:Hp):KX:=ag (KF v) fun l=>@List.casesOn V (fun Y=>KX) l none fun wr l=>@List.casesOn V (fun Y=>KX) l none fun pg l=>@List.rec V (fun Y=>KX) (h.cas fun Y Y Y n Y=>ay (Nat.ble n 4096) (MT h pg fun pf=>ag (aL Nat.beq pf 7565423) fun o=>hL h o none fun i rs n=>ay (and (Nat.blt 7 i) (Nat.blt i 4096)) (ag (BX h (bC rs) i) fun ops=>ay (Nat.ble (aq ops) 1900) (
 MT h wr fun wf=>ag (aL Nat.beq wf 9146654716209542448838493892201) fun ic=>ag (KF ic) fun cs=>ag (aL Nat.beq wf 435610083700) fun tb=>MT h tb fun tf=>ag (aL Nat.beq tf 32481190093287017) fun ix=>Pr h (o::rs) ix fun is=>ag (li h is) fun cols=>
 some (.fl [.fl (dq I8 ops),.fl cs,.fl cols],⟨fun j=>@Nat.rec (fun Y=>Option aB) (h.obj 3) (fun Y Y=>h.obj 5) j,0,.nl,0,[]⟩)) none) none) none) (fun Y Y Y=>none) l
noncomputable def bh(w:cq):Nat:=@cq.casesOn (fun Y=>Nat) w 500136108641 7738135660106379122 1818845542 111542170183529 28538242730059122
noncomputable def bQ(c:fZ)(ep:Nat):aB:=.dL [(431199184235,.bool c.keyed),(32770348699510116,ov c.dflt),(1919508848,.bool c.pair),(1701998445,.bool c.more)] ep
noncomputable def y8(x:Ix):V:=.fl (x.cols.map fun p=>.tup [vi p,.lit 133532167858530,.bool (!x.uni)])
def rS(c:fZ)(P:List Op)(lo:Nat->Option aB):KX:=some (.fl [.fl (P.map fun op=>.fl (b_ op)),.fl ((aG c).map fun x=>vi x.cur),.fl ((aG c).map y8)],⟨fun j=>@Nat.rec (fun Y=>Option aB) (lo 3) (fun Y Y=>lo 5) j,0,.nl,0,[]⟩)
def hG(c:fZ)(ep:Nat)(up:Bool)(l:Nat)(lo:Nat->Option aB)(cs:List R5):Hp:=⟨bD (bD lo 2 (bQ c ep)) 7 (.rows up l cs),1024,.nl,8,[]⟩
def GI(c:fZ)(w:cq):Prop:=∀lo ep (cs:List R5),aS 12 (.fn 40) [.ref 2,.ref 7,.lit (bh w)] (hG c ep false 2 lo cs) vw=@List.rec R5 (fun Y=>KX) (rS c (xX c w []) lo) (fun a r Y=>@List.rec R5 (fun Y=>KX) (rS c (xX c w [a.2]) lo) (fun b r Y=>@List.rec R5 (fun Y=>KX) (rS c (xX c w [a.2,b.2]) lo) (fun Y Y Y=>none) r) r) cs
def GU(c:fZ)(w:cq):Prop:=∀lo ep (cs:List R5),aS 12 (.fn 41) [.ref 2,.ref 7,.lit (bh w)] (hG c ep true 3 lo cs) vw=@List.rec R5 (fun Y=>KX) (rS c (uK c w []) lo) (fun a r Y=>@List.rec R5 (fun Y=>KX) (rS c (uK c w [a]) lo) (fun b r Y=>@List.rec R5 (fun Y=>KX) (rS c (uK c w [a,b]) lo) (fun d r Y=>@List.rec R5 (fun Y=>KX) (rS c (uK c w [a,b,d]) lo) (fun Y Y Y=>none) r) r) r) cs
end
section
set_option maxRecDepth 100000
open PySem PySem.Calls PyProof.Rows PySem.W
theorem aX{a b:Bool}(h:(and a b)=true):a=true/\b=true:=by cases a<;>cases b<;>first|exact⟨rfl,rfl⟩|exact Bool.noConfusion h
theorem d_{P:Prop}(h:false=true):P:=Bool.noConfusion h
theorem nn{P:Prop}(h:none=some a):P:=nomatch h
theorem tT(h:not a=true):a=false:=by cases a<;>first|rfl|exact d_ h
noncomputable def dg(f:Nat):Nat->List Nat:=@Nat.rec (fun Y=>Nat->List Nat) (fun Y=> []) (fun Y ih n=>@Nat.rec (fun Y=>List Nat) [] (fun Y Y=>Nat.mod n 256::ih (Nat.div n 256)) n) f
noncomputable def am(n:Nat):Str:=⟨(dg n n).toArray⟩
theorem pZ:∀(f n:Nat),n<=f->cL (dg f n)=n
 |0,0,_=>rfl
 |f+1,0,_=>rfl
 |f+1,n+1,h=>by refine(?_ :(n+1) % 256+256*cL (dg f ((n+1) / 256))=n+1);refine J (pZ f _ (by lia)) ?_;lia
theorem nB(i j:Nat)(e:am i=am j):i=j:=by
 obtain e':dg i i=dg j j:=by delta am at e;injection e with e;exact(Array.mk.inj e)
 exact aQ (pZ i i (QR _))<|aQ (pZ j j (QR _))<|J e' rfl
theorem yZ:∀(l:List Nat) (f:Nat),(∀c∈l,0 < c/\c < 256)->cL l<=f->dg f (cL l)=l
 | [],f,_,_=>by cases f<;>rfl
 |c::r,f,h,le=>by
  refine xA (h c (.head _)) fun h1 h2=>?_;replace le:c+256*cL r<=f:=le;refine(?_ :dg f (c+256*cL r)=_);obtain⟨g,rfl⟩:∃g,f=g+1:=⟨f - 1,Nat.le_antisymm (ai 0x10c60050010010c6005040002 rfl (jw _ _)) (ai 0x6043140001086043140040002 rfl (jI (ai 0x51c4001180001006003001045043080003 rfl h1 le)))⟩
  obtain⟨n,hn⟩:∃n,c+256*cL r=n+1:=⟨c+256*cL r - 1,by exact QF (ai 0x10c70061000450000400431c0184001140040003 rfl (jw _ _)) (ai 0x71000460010c50000421c4001180043140040003 rfl (jI (ai 0x1400c0041184001140043040002 rfl h1)))⟩
  refine J hn<|(?_ :(n+1) % 256::dg g ((n+1) / 256)=_);exact J (show(n+1) % 256=c by lia)<|J (show(n+1) / 256=cL r by lia)<|J (yZ r g (fun x hx=>h x (.tail _ hx)) (by lia)) rfl
theorem Cd(h:@List.rec Nat (fun Y=>Bool) true (fun c Y ih=>and (and (Nat.blt 0 c) (Nat.blt c 256)) ih) l=true):∀c∈l,0 < c/\c < 256:=by
 induction l with
 |nil=>exact fun c hc=>nomatch hc
 |cons a r ih=>
  refine xA (aX h) fun h1 h2=>xA (aX h1) fun h3 h4=>?_;intro c hc;refine pQ hc ?_ fun hc=>?_
  ·exact⟨QG h3,Nat.le_of_ble_eq_true h4⟩
  ·exact ih h2 c hc
theorem dT(h:i5 x=true):am (cS x)=x:=by obtain⟨⟨l⟩⟩:=x;refine(?_ :(⟨(dg (cL l) (cL l)).toArray⟩:Str)=_);exact J (yZ l _ (Cd h) (QR _)) rfl
theorem jH(hx:i5 x=true)(hy:i5 y=true)(e:cS x=cS y):x=y:=by(exact aQ (dT hx)<|J e<|J (dT hy) rfl)
theorem Bs:∀(k f n:Nat),n < 256 ^ k->(dg f n).length<=k
 |k,0,n,_=>Nat.zero_le _
 |k,f+1,0,_=>Nat.zero_le _
 |0,f+1,n+1,h=>absurd h (by simp)
 |k+1,f+1,n+1,h=>Q3 (Bs k f ((n+1) / 256) (Nat.div_lt_of_lt_mul (by rw [Nat.pow_succ,Nat.mul_comm] at h;exact h)))
theorem mX(h:Nat.blt n (2 ^ 800)=true):(am n).length<=100:=Bs 100 n n (by obtain this:=QG h;exact J (show(256:Nat) ^ 100=2 ^ 800 by decide+kernel)<|this)
noncomputable def ik(f:Nat):Addr:=([36,57,64,71,78,85,92,99,106,111,118,126,133,140,147,154,161,216,224,238,245,253,260,274,289,310,325,346,379,391,412,419,426,431,438,445,452,459,464,471,478,485,490,497,502,509,516,523,528,533,540,547,554,303][f]?).getD 0
noncomputable def dQ(c:Nat):Addr:=([164,292,328,361,401][c]?).getD 0
noncomputable def MA(c:Nat):Addr:=([0,24,201][c]?).getD 0
noncomputable abbrev dN:Addr:=466
def xG(t:BT)(n:Nat):Nat->Frag:=@Nat.rec (fun Y=>Nat->Frag) (fun Y=> []) (fun Y ih a=>@Bool.rec (fun Y=>Frag) (@Option.rec Obj (fun Y=>Frag) (ih (Nat.succ a)) (fun o=>(a,o)::ih (Nat.succ a)) (t.get a)) (ih (Nat.succ a)) (Nat.beq a 466)) n
def KT(P:Params):Frag:=xG (pU P) 555 0
def yG(w:World)(h:Heap):Prop:=WalkO qV kz (fun Y Y=>True) (fun w' h'=>Kept w' h'/\w'=w/\h'=h) uc.row.toRowW dL [] fun f vs=>PySem.call f vs
theorem D7:Nonempty (World×Heap):=⟨⟨⟨fun Y Y=>0,{strHash:=fun Y=>0,shareClass:=fun Y=>0,mergeTok:=fun t=>t,idOf:=fun Y=>0,idOfShared:=fun Y Y=>0,followText:=fun Y=>false,idOfImm:=fun Y=>0}⟩,{}⟩⟩
def Mp:World×Heap:=@Classical.epsilon _ D7 fun p=>¬yG p.1 p.2
def w:World:=Mp.1
def h₀:Heap:=Mp.2
theorem DR(g:yG w h₀):PySem.Challenge.rw_nt0111_01.Holds:=by refine Am fun w' s₀ s₁ mg mb G k=>?_;obtain all:∀p:World×Heap,yG p.1 p.2:=fun p=>Classical.byContradiction fun n=>@Classical.epsilon_spec _ (fun p:World×Heap=>¬yG p.1 p.2) ⟨p,n⟩ g;exact all (w',s₁.heap) w' s₀ s₁ mg mb G ⟨k,rfl,rfl⟩
theorem KD:∃x:Frag,x=KT w.params:=⟨_,rfl⟩
def K:Frag:=KD.choose
theorem K_eq:K=KT w.params:=KD.choose_spec
theorem vf:∃x:Program,x=uc.prog:=⟨_,rfl⟩
def prog:Program:=vf.choose
theorem DA:prog=uc.prog:=vf.choose_spec
abbrev M:Model:=model prog w
section
inductive aT{α β:Type}(R:α->β->Prop):List α->List β->Prop
 |nil:aT R [] []
 |cons {a b as bs}:R a b->aT R as bs->aT R (a::as) (b::bs)
namespace aT
variable{R S:α->β->Prop}
theorem mono(h:∀a b,R a b->S a b)(x:aT R as bs):aT S as bs:=by
 induction x with
 |nil=>exact .nil
 |cons r _ ih=>exact .cons (h _ _ r) ih
theorem i(x:aT R as bs):@List.casesOn α (fun Y=>Prop) as (bs= []) fun a as=>∃b bs',bs=b::bs'/\R a b/\aT R as bs':=by
 cases x with
 |nil=>exact rfl
 |cons r t=>exact⟨_,_,rfl,r,t⟩
@[elab_as_elim] theorem c0{P:List β->Prop}(x:aT R [] bs)(h:P []):P bs:=(show bs= [] from x.i)▸h
@[elab_as_elim] theorem c1{P:List β->Prop}(x:aT R (a::as) bs)(h:∀b bs,R a b->aT R as bs->P (b::bs)):P bs:=by exact bV x.i fun b bs' ρ2 r t=>J ρ2<|h _ _ r t
theorem c2{Z:Prop}(x:aT R (a::as) (b::bs))(h:R a b->aT R as bs->Z):Z:=by refine bV x.i fun b' bs' e r t=>?_;cases e;exact h r t
theorem length(x:aT R as bs):bs.length=as.length:=by
 induction x with
 |nil=>rfl
 |cons _ _ ih=>exact congrArg Nat.succ ih
theorem app(x:aT R as bs)(y:aT R as' bs'):aT R (as++as') (bs++bs'):=by
 induction x with
 |nil=>exact y
 |cons r _ ih=>exact .cons r ih
theorem get(x:aT R as bs):∀{i:Nat} {a:α},as[i]? =some a->∃b,bs[i]? =some b/\R a b:=by
 induction x with
 |nil=>intro i a h;exact nomatch h
 |cons r _ ih=>
  intro i a h
  cases i with
  |zero=>refine bt h ?_;exact⟨_,rfl,r⟩
  |succ i=>exact ih h
theorem of_get:∀{as:List α} {bs:List β},bs.length=as.length->(∀(i:Nat) (a:α) (b:β),as[i]? =some a->bs[i]? =some b->R a b)->aT R as bs
 | [],[],_,_=>.nil
 | [],_::_,h,_=>nomatch h
 |_::_,[],h,_=>nomatch h
 |a::as,b::bs,h,q=>.cons (q 0 a b rfl rfl) (of_get (Nat.succ.inj h) fun i x y e e'=>q (i+1) x y e e')
theorem set(x:aT R as bs):∀(i:Nat) {a:α} {b:β},R a b->aT R (as.set i a) (bs.set i b):=by
 induction x with
 |nil=>intro i a b _;exact .nil
 |cons r t ih=>
  intro i a b q
  cases i with
  |zero=>exact .cons q t
  |succ i=>exact .cons r (ih i q)
theorem drop(x:aT R as bs):∀(n:Nat),aT R (as.drop n) (bs.drop n):=by
 induction x with
 |nil=>intro n;cases n<;>exact .nil
 |cons r t ih=>intro n;cases n with
  |zero=>exact .cons r t
  |succ n=>exact ih n
theorem take(x:aT R as bs):∀(n:Nat),aT R (as.take n) (bs.take n):=by
 induction x with
 |nil=>intro n;cases n<;>exact .nil
 |cons r t ih=>intro n;cases n with
  |zero=>exact .nil
  |succ n=>exact .cons r (ih n)
theorem eraseIdx(x:aT R as bs):∀(n:Nat),aT R (as.eraseIdx n) (bs.eraseIdx n):=by
 induction x with
 |nil=>intro n;exact .nil
 |cons r t ih=>intro n;cases n with
  |zero=>exact t
  |succ n=>exact .cons r (ih n)
theorem rev(x:aT R as bs):aT R as.reverse bs.reverse:=by
 induction x with
 |nil=>exact .nil
 |cons r _ ih=>(refine J List.reverse_cons<|J List.reverse_cons ?_);exact ih.app (.cons r .nil)
theorem map{T:γ->β->Prop}(h:∀c b,T c b->R (f c) b){cs:List γ}(x:aT T cs bs):aT R (cs.map f) bs:=by
 induction x with
 |nil=>exact .nil
 |cons r _ ih=>exact .cons (h _ _ r) ih
end aT
section
variable{α β:Type}
theorem aw(xs:List α):aq xs=xs.length:=by induction xs with|nil=>rfl|cons x r ih=>exact congrArg Nat.succ ih
theorem dz(f:α->β)(xs:List α):dq f xs=xs.map f:=by induction xs with|nil=>rfl|cons x r ih=>exact congrArg (f x:: ·) ih
theorem qi(xs ys:List α):DM xs ys=xs++ys:=by induction xs with|nil=>rfl|cons x r ih=>exact congrArg (x:: ·) ih
theorem zb(xs bx:List α):@List.rec α (fun Y=>List α->List α) (fun bx=>bx) (fun x Y ih bx=>ih (x::bx)) xs bx=xs.reverse++bx:=by
 induction xs generalizing bx with
 |nil=>rfl
 |cons x r ih=>(refine J List.reverse_cons<|J (Q5 _ _ _) ?_);exact ih (x::bx)
theorem bq(xs:List α):bC xs=xs.reverse:=(zb xs []).trans (List.append_nil _)
theorem wA:∀(xs:List α) (n:Nat),K9 xs n=xs.drop n
 | [],0=>rfl
 | [],n+1=>rfl
 |x::r,0=>rfl
 |x::r,n+1=>wA r n
theorem uh:∀(xs:List α) (n:Nat),Ol xs n=xs.take n
 | [],0=>rfl
 | [],n+1=>rfl
 |x::r,0=>rfl
 |x::r,n+1=>congrArg (x:: ·) (uh r n)
theorem qn(v:α):∀(xs:List α) (n:Nat),pY v xs n=xs.set n v
 | [],n=>rfl
 |x::r,0=>rfl
 |x::r,n+1=>congrArg (x:: ·) (qn v r n)
theorem lQ:∀(xs:List α) (n:Nat),wP xs n=xs.eraseIdx n
 | [],n=>rfl
 |x::r,0=>rfl
 |x::r,n+1=>congrArg (x:: ·) (lQ r n)
theorem hV:∀(xs:List α) (n:Nat),lN xs n=xs[n]?
 | [],n=>rfl
 |x::r,0=>rfl
 |x::r,n+1=>hV r n
end
set_option genCtorIdx true in
inductive Ow where
 |free|g (o:Obj)|f (o:Obj)|k (n:Nat)|t
noncomputable def Ow.ob:Ow->Option Obj
 |.g o=>some o
 |.f o=>some o
 |_=>none
structure Gh where
 m:Nat->Option (Addr×Addr)
 w:Addr->Ow
structure Gh.le(a b:Gh):Prop where
 m:∀k x,a.m k=some x->b.m k=some x
 w:∀c o,a.w c=.g o->b.w c=.g o
theorem Gh.le.refl(a:Gh):a.le a:=⟨fun Y Y e=>e,fun Y Y e=>e⟩
theorem Gh.le.trans{a b c:Gh}(x:a.le b)(y:b.le c):a.le c:=⟨fun k v e=>y.m k v (x.m k v e),fun k v e=>y.w k v (x.w k v e)⟩
noncomputable def ny:Str:="_law_writer.<locals>.<lambda>"
def wG(g:Gh)(l:Expr)(a:Addr)(vals:List Value)(cs:List Nat):Prop:=∃ps b sc pos cl pm c' ctv oc vs t,l=.Lambda ps b sc pos/\g.w a=.g (kla_obj "<lambda>" ny ps b sc cl pm c' ctv)/\g.w c'=.g oc/\oc.data=.fields vs/\vs[1]? =some (.str ny t)/\
 cs=frees sc.names/\gu sc.names=true/\
 aT (fun x val=>∃c o,cl.lookup x=some c/\g.w c=.g o/\o.data=.cell (some val)) ((sc.names.filter fun p=>p.2 == .free).map (·.1)) vals/\(∀x y c,cl.lookup x=some c->cl.lookup y=some c->x=y)/\∀x c,cl.lookup x=some c->∃o,g.w c=.g o
theorem wG.mono(e:g.le g')(h:wG g l a vals cs):wG g' l a vals cs:=by exact ij h fun ps b ψ0=>ij ψ0 fun sc pos ψ1=>da ψ1 fun cl pm c' ctv oc vs t h1 h2 ψ2=>ez ψ2 fun h3 h4 h5 h6 ψ3=>fi ψ3 fun h7 h8 h9 h10=>⟨ps,b,sc,pos,cl,pm,c',ctv,oc,vs,t,h1,e.w _ _ h2,e.w _ _ h3,h4,h5,h6,h7,h8.mono fun _ _ ⟨c,o,q1,q2,q3⟩=>⟨c,o,q1,e.w _ _ q2,q3⟩,h9,fun x c q=>(h10 x c q).imp fun o q=>e.w _ _ q⟩
inductive VR(g:Gh):V->Value->Prop
 |none:VR g .none .none
 |bool (b:Bool):VR g (.bool b) (.bool b)
 |int (i:Int) (t:Tok):VR g (.int i) (.int i t)
 |lit (n:Nat) (t:Tok):VR g (.lit n) (.str (am n) t)
 |txt (s:Str) (t:Tok):VR g (.txt s) (.str s t)
 |msg (n:Nat) (s:Str) (t:Tok):s.length<=n->n<=sizeLine->VR g (.msg n) (.str s t)
 |tup (xs:List V) (vs:List Value) (a:Addr) (n:Nat):g.w a=.g {cls:=.type "tuple",data:=.seq vs.toArray n}->vs.length=xs.length->(∀(i:Nat) (x:V) (v:Value),xs[i]? =some x->vs[i]? =some v->VR g x v)->VR g (.tup xs) (.ref a)
 |fl (xs:List V) (vs:List Value) (a:Addr) (n:Nat):g.w a=.g {cls:=.type "list",data:=.seq vs.toArray n}->vs.length=xs.length->(∀(i:Nat) (x:V) (v:Value),xs[i]? =some x->vs[i]? =some v->VR g x v)->VR g (.fl xs) (.ref a)
 |ref (k:Nat) (a d:Addr):g.m k=some (a,d)->VR g (.ref k) (.ref a)
 |rng (lo hi:Int) (a:Addr) (t1 t2 t3:Tok):g.w a=.g {cls:=.type "range",data:=.fields #[.int lo t1,.int hi t2,.int 1 t3]}->VR g (.rng lo hi) (.ref a)
 |gd (n:Nat):VR g (.gd n) (.ref (MA n))
 |clo (l:Expr) (env:List (Nat×V)) (a:Addr) (vals:List Value):wG g l a vals (env.map (·.1))->vals.length=env.length->(∀(i:Nat) (p:Nat×V) (v:Value),env[i]? =some p->vals[i]? =some v->VR g p.2 v)->VR g (.clo l env) (.ref a)
variable{u val:Value}
theorem VR.mono(e:g.le g')(r:VR g v u):VR g' v u:=by
 induction r with
 |none=>exact .none
 |bool b=>exact .bool b
 |int i t=>exact .int i t
 |lit i t=>exact .lit i t
 |txt s t=>exact .txt s t
 |msg n s t a b=>exact .msg n s t a b
 |tup xs vs a n q l _ ih=>exact .tup xs vs a n (e.w _ _ q) l ih
 |fl xs vs a n q l _ ih=>exact .fl xs vs a n (e.w _ _ q) l ih
 |ref k a d q=>exact .ref k a d (e.m _ _ q)
 |rng lo hi a t1 t2 t3 q=>exact .rng lo hi a t1 t2 t3 (e.w _ _ q)
 |gd n=>exact .gd n
 |clo l env a vals f q _ ih=>exact .clo l env a vals (f.mono e) q ih
abbrev c6(g:Gh):=aT (VR g)
theorem c6.up(e:g.le g')(r:c6 g xs vs):c6 g' xs vs:=r.mono fun Y Y z=>z.mono e
theorem C7(r:VR g .none u):u=.none:=by cases r;rfl
theorem qc(r:VR g (.bool b) u):u=.bool b:=by cases r;rfl
theorem cH(r:VR g (.int i) u):∃t,u=.int i t:=by cases r;exact⟨_,rfl⟩
theorem dh(r:VR g (.lit n) u):∃t,u=.str (am n) t:=by cases r;exact⟨_,rfl⟩
theorem yk(r:VR g (.txt s) u):∃t,u=.str s t:=by cases r;exact⟨_,rfl⟩
theorem HC(r:VR g (.ref k) u):∃a d,u=.ref a/\g.m k=some (a,d):=by cases r with|ref _ a d e=>exact⟨a,d,rfl,e⟩
theorem AA(r:VR g (.tup xs) u):∃a vs n,u=.ref a/\g.w a=.g {cls:=.type "tuple",data:=.seq vs n}/\c6 g xs vs.toList:=by cases r with|tup _ vs a n h1 h2 h3=>exact⟨a,_,n,rfl,h1,.of_get h2 h3⟩
theorem Fe(r:VR g (.fl xs) u):∃a vs n,u=.ref a/\g.w a=.g {cls:=.type "list",data:=.seq vs n}/\c6 g xs vs.toList:=by cases r with|fl _ vs a n h1 h2 h3=>exact⟨a,_,n,rfl,h1,.of_get h2 h3⟩
theorem c6.at(r:c6 g xs vs)(i:Nat)(x:V)(v:Value)(e:xs[i]? =some x)(f:vs[i]? =some v):VR g x v:=by refine an (r.get e) fun b e' q=>?_;rw [f] at e';obtain rfl:=sj e';exact q
theorem uL(e:g.w a=.g {cls:=.type "tuple",data:=.seq vs n})(r:c6 g xs vs.toList):VR g (.tup xs) (.ref a):=.tup xs vs.toList a n e r.length r.at
theorem lr(e:g.w a=.g {cls:=.type "list",data:=.seq vs n})(r:c6 g xs vs.toList):VR g (.fl xs) (.ref a):=.fl xs vs.toList a n e r.length r.at
structure ER{α:Type} [DecidableEq α](eM:KeyKind prog w α)(g:Gh)(e:α×V)(d:DictEntry):Prop where
 key:eM.is e.1 d.key=true
 hash:d.hash=eM.hash e.1
 val:VR g e.2 d.val
theorem ER.mono [DecidableEq α]{eM:KeyKind prog w α}(e:g.le g'){p:α×V}{d:DictEntry}(r:ER eM g p d):ER eM g' p d:=⟨r.key,r.hash,r.val.mono e⟩
theorem BW(a b:Nat):decide (am a=am b)=decide (a=b):=by
 by_cases c:a=b
 ·subst c;(exact J (QO rfl)<|J (QO rfl) rfl)
 ·exact J (QP c)<|J (QP fun z=>c (nB _ _ z)) rfl
def litKind:KeyKind prog w Nat where
 is i v:=(PySem.strKind prog w).is (am i) v
 hash i:=(PySem.strKind prog w).hash (am i)
 inj v a b ha hb:=nB _ _ ((PySem.strKind prog w).inj v _ _ ha hb)
 byValue k v h:=(PySem.strKind prog w).byValue _ v h
 pyHash h q:=(PySem.strKind prog w).pyHash h q
 eqBool {A E s a b u v Q} ha hb q:=(PySem.strKind prog w).eqBool ha hb ((BW a b).symm▸q)
 «strs»:=fun k x t v h=>(PySem.strKind prog w).strs _ x t v h
abbrev kO:KeyKind prog w Int:=intKind prog w
structure EJ(g:Gh)(e:Nat×V)(d:DictEntry):Prop where
 key:∃t,d.key=.str (am e.1) t
 val:VR g e.2 d.val
def OR(g:Gh)(h:Heap)(a d:Addr)(o:aB):Prop:=match o with
 |.gone=>True
 |.list rs n=>d=a/\n=rs.length/\∃vs c,h.get? a=some {cls:=.type "list",data:=.seq vs c}/\c6 g rs.reverse vs.toList
 |.rows up _ cs=>d=a/\∃vs c,h.get? a=some {cls:=.type "list",data:=.seq vs c}/\c6 g (cs.map (Ef up)) vs.toList
 |.dI es ep=>d=a/\(es.map (·.1)).Nodup/\∃bn,h.get? a=some {cls:=.type "dict",data:=.dict bn ep}/\aT (ER kO g) es bn.toList
 |.dL es ep=>d=a/\∃bn,h.get? a=some {cls:=.type "dict",data:=.dict bn ep}/\aT (ER litKind g) es bn.toList
 |.inst c fs=>a≠d/\h.get? a=some (instObj (dQ c) d)/\(∀p∈fs,kR c p.1=true)/\∃bn n,h.get? d=some {cls:=.type "dict",data:=.dict bn n}/\aT (EJ g) fs bn.toList
theorem OR.mono{a d:Addr}{o:aB}(e:g.le g')(ha:h'.get? a=h.get? a)(hd:h'.get? d=h.get? d)(r:OR g h a d o):OR g' h' a d o:=by
 cases o with
 |gone=>trivial
 |list rs n=>refine fp r fun r1 r2 ψ7=>dy ψ7 fun vs c q l=>?_;exact⟨r1,r2,vs,c,ha.trans q,l.up e⟩
 |rows up n cs=>refine x5 r fun r1 vs c ψ0=>?_;exact xA ψ0 fun q l=>⟨r1,vs,c,ha.trans q,l.up e⟩
 |dI es ep=>refine fp r fun r1 r2 ψ0=>?_;exact an ψ0 fun bn q l=>⟨r1,r2,bn,ha.trans q,l.mono fun Y Y z=>z.mono e⟩
 |dL es ep=>refine og r fun r1 bn q l=>?_;exact⟨r1,bn,ha.trans q,l.mono fun Y Y z=>z.mono e⟩
 |inst c fs=>refine fi r fun r1 q f ψ0=>?_;exact dy ψ0 fun bn n q' l=>⟨r1,ha.trans q,f,bn,n,hd.trans q',l.mono fun Y Y z=>⟨z.key,z.val.mono e⟩⟩
def Mz(g:Gh)(h:Heap)(k:Nat)(o:aB):Prop:=∃a d,g.m k=some (a,d)/\g.w a=.k k/\g.w d=.k k/\OR g h a d o
def HY(u:List Nat)(h:Heap):Prop:=∃ps,h.get? dN=some (tabObj ps)/\TriplesOk ps.toList/\∀p:Pos,ji u p.line=false->codeAmong p ps.toList=none
structure D8(g:Gh)(H:Hp)(h:Heap):Prop where
 ex:∀b o,(g.w b).ob=some o->h.get? b=some o
 live:∀b,h.get? b=none->g.w b=.free
 base:∀b o,h₀.get? b=some o->b≠dN->g.w b=.g o
 new:∀k,H.next<=k->g.m k=none
 has:∀k o,H.obj k=some o->o=.gone\/Mz g h k o
 tab:g.w dN=.t/\HY H.used h
theorem D8.gen(r:D8 g H h)(B:Addr->Prop)(e:g.le g')(hw:∀c,¬B c->g'.w c=g.w c)(hh:∀c,¬B c->g.w c≠ .free->h'.get? c=h.get? c)(hb:∀c,B c->(∀o,g.w c≠ .g o)/\g.w c≠ .t)
  (hx:∀c,B c->(∀o,(g'.w c).ob=some o->h'.get? c=some o)/\(h'.get? c=none->g'.w c=.free))(hn:∀k,H'.next<=k->g'.m k=none)(hu:H'.used=H.used)
  (hk:∀k o,H'.obj k=some o->o=.gone\/Mz g' h' k o\/H.obj k=some o/\∀c,B c->g.w c≠ .k k):D8 g' H' h':=by
 have sm:∀c,¬B c->∀x,g.w c=x->x≠ .free->g'.w c=x/\h'.get? c=h.get? c:=fun c n x q ne=>⟨(hw c n).trans q,hh c n (J q<|ne)⟩
 refine⟨fun b o q=>?_,fun b q=>?_,fun b o q n=>e.w _ _ (r.base b o q n),hn,fun k o q=>?_,?_⟩
 ·by_cases c:B b
  ·exact(hx b c).1 o q
  ·rw [hw b c] at q;exact J (hh b c (fun z=>by rw [z] at q;exact nomatch q))<|r.ex b o q
 ·by_cases c:B b
  ·exact(hx b c).2 q
  ·refine J (hw b c) ?_;by_cases z:g.w b=.free
   ·exact z
   ·rw [hh b c z] at q;exact r.live b q
 ·refine Or.elim (hk k o q) (fun z=>?_) fun ρ=>Or.elim ρ (fun z=>?_) fun ρ=>?_
  ·exact .inl z
  ·exact .inr z
  ·refine xA ρ fun z n=>(r.has k o z).imp id fun⟨a,d,z1,z2,z3,z4⟩=>?_;obtain na:¬B a:=fun c=>n a c z2;obtain nd:¬B d:=fun c=>n d c z3;exact xA (sm a na _ z2 Ow.noConfusion) fun wa ha=>xA (sm d nd _ z3 Ow.noConfusion) fun wd hd=>⟨a,d,e.m _ _ z1,wa,wd,z4.mono e ha hd⟩
 ·obtain nt:¬B dN:=fun c=>(hb _ c).2 r.tab.1;exact xA (sm dN nt _ r.tab.1 Ow.noConfusion) fun wt ht=>og r.tab fun Y ps e1 e2=>⟨wt,ps,ht.trans e1,J hu<|e2⟩
structure VS where
 s:Shared
 g:Gh
 H:Hp
 r:D8 g H s.heap
abbrev dH:Addr->Prop:=fun Y=>False
structure Le(P:Addr->Prop)(σ τ:VS):Prop where
 g:σ.g.le τ.g
 f:∀b o,σ.g.w b=.f o->¬P b->τ.g.w b=.f o
 s:τ.s={σ.s with heap:=τ.s.heap,toks:=τ.s.toks}
theorem Le.refl(σ:VS):Le P σ σ:=⟨.refl _,fun Y Y e Y=>e,rfl⟩
theorem Le.trans(x:Le P σ τ)(y:Le P τ υ):Le P σ υ:=⟨x.g.trans y.g,fun b o e n=>y.f b o (x.f b o e n) n,by(exact J y.s<|J x.s rfl)⟩
theorem Le.wide(x:Le dH σ τ):Le P σ τ:=⟨x.g,fun b o e Y=>x.f b o e id,x.s⟩
theorem Le.vr(x:Le P σ τ)(r:VR σ.g v u):VR τ.g v u:=r.mono x.g
theorem Le.vrs(x:Le P σ τ)(r:c6 σ.g xs vs):c6 τ.g xs vs:=r.up x.g
def Fin(σ:VS)(k:KV)(r:V×Hp)(Q:Value->Shared->Prop):Prop:=∀τ v u,Le dH σ τ->VR τ.g v u->k v τ.H=some r->Q u τ.s
theorem Fin.from(h:Fin σ k r Q)(x:Le dH σ τ):Fin τ k r Q:=fun υ v u y=>h υ v u (x.trans y)
end
section
variable{α β:Type}{r:β}
theorem aZ{r:V×Hp}(e:ag o k=some r):∃a,o=some a/\k a=some r:=by cases o with|none=>exact nn e|some a=>exact⟨a,rfl,e⟩
theorem ah(e:aj o k=some r):∃a,o=some a/\k a=some r:=by cases o with|none=>exact nn e|some a=>exact⟨a,rfl,e⟩
theorem aW(e:bg b x=some r):b=true/\x=some r:=by cases b with|false=>exact nn e|true=>exact⟨rfl,e⟩
theorem eA{r:V×Hp}(e:ay b x none=some r):b=true/\x=some r:=by cases b with|false=>exact nn e|true=>exact⟨rfl,e⟩
theorem bY(e:@Option.rec α (fun Y=>β) n k o=r):(∃a,o=some a/\k a=r)\/o=none/\n=r:=by cases o with|none=>exact .inr ⟨rfl,e⟩|some a=>exact .inl ⟨a,rfl,e⟩
theorem cM(e:vInt v=some i):v=.int i:=by cases v<;>first|exact nn e|(refine bt e ?_;rfl)
theorem vx(e:vBool v=some i):v=.bool i:=by cases v<;>first|exact nn e|(refine bt e ?_;rfl)
theorem iy(e:di v=some i):v=.lit i:=by cases v<;>first|exact nn e|(refine bt e ?_;rfl)
theorem IH(e:JL v=some i):v=.txt i:=by cases v<;>first|exact nn e|(refine bt e ?_;rfl)
theorem iH(e:iJ v=some i):v=.tup i:=by cases v<;>first|exact nn e|(refine bt e ?_;rfl)
theorem Jo(e:Pk v=some i):v=.gd i:=by cases v<;>first|exact nn e|(refine bt e ?_;rfl)
theorem D5(e:Gv v n k=r):(∃a b,v=.rng a b/\k a b=r)\/n=r:=by cases v<;>first|exact .inr e|exact .inl ⟨_,_,rfl,e⟩
theorem D3(e:Gx v n k=r):(∃a b,v=.clo a b/\k a b=r)\/n=r:=by cases v<;>first|exact .inr e|exact .inl ⟨_,_,rfl,e⟩
theorem my(e:CG h v n k=r):(∃i o,v=.ref i/\h.obj i=some o/\k i o=r)\/n=r:=by
 cases v<;>first|exact .inr e|skip
 exact(bY e).imp (fun⟨o,a,b⟩=>⟨_,o,rfl,a,b⟩) (·.2)
theorem gL(e:hL h v n k=r):(∃i rs c,v=.ref i/\h.obj i=some (.list rs c)/\k i rs c=r)\/n=r:=by
 refine Or.elim (my e) (fun ρ=>?_) fun e=>?_
 ·refine bV ρ fun i o a b e=>?_;cases o<;>first|exact .inr e|exact .inl ⟨i,_,_,a,b,e⟩
 ·exact .inr e
theorem se(e:gi h v n k=r):(∃i u l cs,v=.ref i/\h.obj i=some (.rows u l cs)/\k i u l cs=r)\/n=r:=by
 refine Or.elim (my e) (fun ρ=>?_) fun e=>?_
 ·refine bV ρ fun i o a b e=>?_;cases o<;>first|exact .inr e|exact .inl ⟨i,_,_,_,a,b,e⟩
 ·exact .inr e
theorem ff(e:iD h v n k=r):(∃i es ep,v=.ref i/\h.obj i=some (.dI es ep)/\k i es ep=r)\/n=r:=by
 refine Or.elim (my e) (fun ρ=>?_) fun e=>?_
 ·refine bV ρ fun i o a b e=>?_;cases o<;>first|exact .inr e|exact .inl ⟨i,_,_,a,b,e⟩
 ·exact .inr e
theorem uQ(e:rZ h v n k=r):(∃i es ep,v=.ref i/\h.obj i=some (.dL es ep)/\k i es ep=r)\/n=r:=by
 refine Or.elim (my e) (fun ρ=>?_) fun e=>?_
 ·refine bV ρ fun i o a b e=>?_;cases o<;>first|exact .inr e|exact .inl ⟨i,_,_,a,b,e⟩
 ·exact .inr e
theorem iA(e:ip h v n k=r):(∃i c fs,v=.ref i/\h.obj i=some (.inst c fs)/\k i c fs=r)\/n=r:=by
 refine Or.elim (my e) (fun ρ=>?_) fun e=>?_
 ·refine bV ρ fun i o a b e=>?_;cases o<;>first|exact .inr e|exact .inl ⟨i,_,_,a,b,e⟩
 ·exact .inr e
theorem yR(e:gV h v=some xs):v=.fl xs\/∃i rs c,v=.ref i/\h.obj i=some (.list rs c)/\xs=rs.reverse:=by
 cases v<;>first|exact nn e|(exact bt e<| .inl rfl)|skip
 refine an (ah e) fun o e1 e=>?_;cases o<;>first|exact nn e|(exact bt e<| .inr ⟨_,_,_,rfl,e1,bq _⟩)
theorem Av(e:jR h v=some xs):v=.tup xs\/gV h v=some xs:=by cases v<;>first|exact nn e|(exact bt e<| .inl rfl)|exact .inr e
end
section
variable{α K:Type} [DecidableEq K]{eq:K->K->Bool}
def nG(eq:K->K->Bool):Prop:=∀a b,eq a b=decide (a=b)
theorem nG.t(he:nG eq)(c:a=b):eq a b=true:=by(exact J (he _ _)<|J (QO c) rfl)
theorem nG.f(he:nG eq)(c:a≠b):eq a b=false:=by(exact J (he _ _)<|J (QP c) rfl)
theorem s0(he:nG eq)(c:a=k)(v:α)(r:List (K×α)):aL eq ((a,v)::r) k=some v:=by refine(?_ :@Bool.rec (fun Y=>Option α) (aL eq r k) (some v) (eq a k)=_);exact J (he.t c) rfl
theorem lW(he:nG eq)(c:a≠k)(v:α)(r:List (K×α)):aL eq ((a,v)::r) k=aL eq r k:=by refine(?_ :@Bool.rec (fun Y=>Option α) (aL eq r k) (some v) (eq a k)=_);exact J (he.f c) rfl
theorem xw(he:nG eq)(c:a=k)(v w:α)(r:List (K×α)):aP eq k v ((a,w)::r)=(a,v)::r:=by refine(?_ :@Bool.rec (fun Y=>List (K×α)) ((a,w)::aP eq k v r) ((a,v)::r) (eq a k)=_);exact J (he.t c) rfl
theorem rR(he:nG eq)(c:a≠k)(v w:α)(r:List (K×α)):aP eq k v ((a,w)::r)=(a,w)::aP eq k v r:=by refine(?_ :@Bool.rec (fun Y=>List (K×α)) ((a,w)::aP eq k v r) ((a,v)::r) (eq a k)=_);exact J (he.f c) rfl
theorem FZ(he:nG eq)(c:a=k)(w:α)(r:List (K×α)):aD eq k ((a,w)::r)=r:=by refine(?_ :@Bool.rec (fun Y=>List (K×α)) ((a,w)::aD eq k r) r (eq a k)=_);exact J (he.t c) rfl
theorem G3(he:nG eq)(c:a≠k)(w:α)(r:List (K×α)):aD eq k ((a,w)::r)=(a,w)::aD eq k r:=by refine(?_ :@Bool.rec (fun Y=>List (K×α)) ((a,w)::aD eq k r) r (eq a k)=_);exact J (he.f c) rfl
theorem oM(he:nG eq)(k j:K)(v:α):∀es:List (K×α),aL eq (aP eq k v es) j=if j=k then some v else aL eq es j
 | []=>by
  by_cases c:j=k
  ·exact J (QM c)<|J (s0 he c.symm _ _) rfl
  ·exact J (QN c)<|J ((lW he fun q=>c q.symm) _ _) rfl
 |(a,w)::r=>by
  by_cases ca:a=k
  ·refine J (xw he ca _ _ _) ?_;by_cases c:j=k
   ·exact J (QM c)<|J (s0 he (ca.trans c.symm) _ _) rfl
   ·exact J (QN c)<|J ((lW he fun q=>c (q.symm.trans ca)) _ _)<|J ((lW he fun q=>c (q.symm.trans ca)) _ _) rfl
  ·refine J (rR he ca _ _ _) ?_;by_cases cj:a=j
   ·exact J (s0 he cj _ _)<|J (s0 he cj _ _)<|J (QN fun q=>ca (cj.trans q)) rfl
   ·exact J (lW he cj _ _)<|J (lW he cj _ _)<|J (oM he k j v r) rfl
theorem mM(he:nG eq):∀{es:List (K×α)},aL eq es k=some v->(k,v)∈es
 | [],e=>nn e
 |(a,w)::r,e=>by
  by_cases c:a=k
  ·rw [s0 he c] at e;exact bt e<|J c<| .head _
  ·rw [lW he c] at e;exact .tail _ (mM he e)
theorem qJ(he:nG eq):∀{es:List (K×α)} {p:K×α},p∈aP eq k v es->p.1=k\/p∈es
 | [],p,m=>aQ (Eq.symm (List.mem_singleton.mp m))<| .inl rfl
 |(a,w)::r,p,m=>by
  by_cases c:a=k
  ·rw [xw he c] at m;refine pQ m ?_ fun m=>?_
   ·exact .inl c
   ·exact .inr (.tail _ m)
  ·rw [rR he c] at m;refine pQ m ?_ fun m=>?_
   ·exact .inr (.head _)
   ·exact(qJ he m).imp id (.tail _)
end
theorem natE:nG Nat.beq:=fun a b=>by
 by_cases c:a=b
 ·(refine J (QO c)<|J c ?_);exact Nat.beq_refl b
 ·refine J (QP c)<|fE (Nat.beq a b) (fun q=>?_) fun q=>?_
  ·exact absurd (QT q) c
  ·rfl
theorem d7:nG iE:=fun a b=>by
 cases a<;>cases b
 ·exact(natE _ _).trans (decide_eq_decide.mpr ⟨congrArg _,Int.ofNat.inj⟩)
 ·exact(QP Int.noConfusion).symm
 ·exact(QP Int.noConfusion).symm
 ·exact(natE _ _).trans (decide_eq_decide.mpr ⟨congrArg _,Int.negSucc.inj⟩)
theorem Tr.get_put(k j:Nat)(o:aB):∀(p q:List Bool) (t:Tr),Tr.get j (Tr.put k o p t) q=if q=p/\j=k then some o else Tr.get j t q
 | [],[],.nl=>by refine(?_ :aL Nat.beq (aP Nat.beq k o []) j=_);refine J (oM natE _ _ _ _) ?_;simp only[true_and];rfl
 | [],[],.nd l a b=>by refine(?_ :aL Nat.beq (aP Nat.beq k o l) j=_);refine J (oM natE _ _ _ _) ?_;simp only[true_and];rfl
 | [],c::q,t=>by refine J (QN fun z=>nomatch z.1) ?_;cases t<;>cases c<;>rfl
 |b::p,[],t=>by refine J (QN fun z=>nomatch z.1) ?_;cases t<;>cases b<;>rfl
 |b::p,c::q,t=>by
  by_cases e:c=b
  ·subst e;have z:=fun u=>Tr.get_put k j o p q u;simp only[List.cons.injEq,true_and];cases t<;>cases c<;>exact z _
  ·refine J (QN fun z=>e (List.cons.inj z.1).1) ?_;cases t<;>cases b<;>cases c<;>first|rfl|exact absurd rfl e
namespace Hp
variable(H:Hp)(k j:Nat)(o:aB)(b:Nat)
theorem next_set:(H.set k o).next=H.next:=by cases H with|mk lo b t n u=>exact(by cases e:Nat.ble b k<;>simp only[Hp.set,e])
theorem used_set:(H.set k o).used=H.used:=by cases H with|mk lo b t n u=>exact(by cases e:Nat.ble b k<;>simp only[Hp.set,e])
theorem obj_set:(H.set k o).obj j=if j=k then some o else H.obj j:=by
 cases H with|mk lo b t n u=>
 cases e:Nat.ble b k with
 |true=>
  simp only[Hp.set,e];refine fE (Nat.ble b j) (fun f=>?_) fun f=>?_
  ·simp only[Hp.obj,f];refine J (Tr.get_put _ _ _ _ _ _) ?_;by_cases c:j=k
   ·exact J (QM c)<|J (QM ⟨J c rfl,c⟩) rfl
   ·exact J (QN c)<|J (QN fun z=>c z.2) rfl
  ·simp only[Hp.obj,f];exact J (QN fun c=>by rw [c,e] at f;exact nomatch f) rfl
 |false=>
  simp only[Hp.set,e];refine fE (Nat.ble b j) (fun f=>?_) fun f=>?_
  ·simp only[Hp.obj,f];exact J (QN fun c=>by rw [c,e] at f;exact nomatch f) rfl
  ·simp only[Hp.obj,f,bD];by_cases c:j=k
   ·exact J (QM c)<|J (natE.t c) rfl
   ·exact J (QN c)<|J (natE.f c) rfl
theorem obj_new:(H.new o).obj j=if j=H.next then some o else H.obj j:=by refine aQ (obj_set _ _ _ _) ?_;delta Hp.new;cases H.set H.next o;rfl
theorem next_new:(H.new o).next=H.next+1:=by refine aQ (next_set H H.next o) ?_;delta Hp.new;cases H.set H.next o;rfl
theorem used_new:(H.new o).used=H.used:=by refine aQ (used_set H H.next o) ?_;delta Hp.new;cases H.set H.next o;rfl
theorem obj_cut{j o}(e:(H.cut b).obj j=some o):H.obj j=some o:=by
 cases H with|mk lo b' t n u=>
 revert e;refine(?_ :@Bool.rec (fun Y=>Option aB) (Hp.obj ⟨lo,b',t,n,u⟩ j) none (Nat.ble b j)=some o->_);cases Nat.ble b j<;>intro e<;>first|exact e|exact nn e
end Hp
theorem fA(H:Hp)(o:aB)(k:V->Hp->β):dt H o k=k (.ref H.next) (H.new o):=by
 cases H with|mk lo b t n u=>
 refine(?_ :k (.ref n) _=k (.ref n) _);congr 1;delta Hp.new;cases e:Nat.ble b n<;>simp only[Hp.set,Hp.up,Hp.cas,e]
section
variable{g:Gh}
abbrev Grows(h h':Heap):Prop:=∀b o,h.get? b=some o->h'.get? b=some o
theorem fP(h:Heap)(o:Obj):Grows h (h.push o):=fun b x e=>Heap.get?_push_of_some _ e
theorem bu(h:Heap):h.get? h.objs.size=none:=by
 refine iS (h.get? h.objs.size) (fun e=>?_) fun o e=>?_
 ·rfl
 ·exact absurd (Heap.lt_size e) (Nat.lt_irrefl _)
theorem D8.old(r:D8 g H h)(n:g.w b≠ .free):∃o,h.get? b=some o:=by
 refine iS (h.get? b) (fun e=>?_) fun o e=>?_
 ·exact absurd (r.live b e) n
 ·exact⟨o,rfl⟩
theorem D8.same(r:D8 g H h)(gr:Grows h h')(c:Addr)(n:g.w c≠ .free):h'.get? c=h.get? c:=by exact xE (r.old n) fun o e=>J e<|gr c o e
noncomputable def Gh.put(g:Gh)(a:Addr)(x:Ow):Gh:=⟨g.m,fun c=>if c=a then x else g.w c⟩
noncomputable def Gh.own(g:Gh)(k:Nat)(x:Addr×Addr):Gh:=⟨fun j=>if j=k then some x else g.m j,fun c=>if c=x.1\/c=x.2 then .k k else g.w c⟩
theorem cQ(g:Gh)(a:Addr)(x:Ow):(g.put a x).w a=x:=QM rfl
theorem kU(n:c≠a)(x:Ow):(g.put a x).w c=g.w c:=QN n
theorem m9(g:Gh)(k:Nat)(x:Addr×Addr):(g.own k x).m k=some x:=QM rfl
theorem put_le(n:∀o,g.w a≠ .g o):g.le (g.put a x):=⟨fun Y Y e=>e,fun c o e=>(kU (fun(q:c=a)=>n o (q▸e)) x).trans e⟩
theorem iw(n:g.m k=none\/g.m k=some x)(n1:∀o,g.w x.1≠ .g o)(n2:∀o,g.w x.2≠ .g o):g.le (g.own k x):=by
 refine⟨fun j y e=>?_,fun c o e=>(QN fun q=>q.elim (fun q=>n1 o (q▸e)) fun q=>n2 o (q▸e)).trans e⟩;by_cases c:j=k
 ·subst c;refine Or.elim n (fun n=>?_) fun n=>?_
  ·rw [n] at e;exact nn e
  ·rw [n] at e;exact bt e<|QM rfl
 ·exact(QN c).trans e
variable(σ:VS)
noncomputable abbrev VS.sh(h':Heap)(tk:Tok):Shared:={σ.s with heap:=h',toks:=tk}
noncomputable def VS.tk(tk:Tok):VS:=⟨{σ.s with toks:=tk},σ.g,σ.H,σ.r⟩
theorem VS.tk_le{tk:Tok}:Le P σ (σ.tk tk):=⟨.refl _,fun Y Y e Y=>e,rfl⟩
noncomputable def VS.jk{h':Heap}(gr:Grows σ.s.heap h')(tk:Tok):VS:=⟨σ.sh h' tk,σ.g,σ.H,
 σ.r.gen dH (.refl _) (fun Y Y=>rfl) (fun c Y=>σ.r.same gr c) (fun Y c=>c.elim) (fun Y c=>c.elim) σ.r.new rfl fun k o e=>.inr (.inr ⟨e,fun Y c=>c.elim⟩)⟩
theorem VS.jk_le(gr:Grows σ.s.heap h')(tk:Tok):Le P σ (σ.jk gr tk):=⟨.refl _,fun Y Y e Y=>e,rfl⟩
structure pX(g:Gh)(a:Addr):Prop where
 h:g.w a=.free\/∃o,g.w a=.f o
theorem pX.ng(x:pX g a):∀o,g.w a≠ .g o:=fun o e=>by rcases x.h with q|⟨_,q⟩<;>rw [q] at e<;>exact Ow.noConfusion e
theorem pX.nk(x:pX g a):∀k,g.w a≠ .k k:=fun o e=>by rcases x.h with q|⟨_,q⟩<;>rw [q] at e<;>exact Ow.noConfusion e
theorem pX.nt(x:pX g a):g.w a≠ .t:=fun e=>by rcases x.h with q|⟨_,q⟩<;>rw [q] at e<;>exact Ow.noConfusion e
theorem ME{x:Ow}{k:Nat}(hc:x=.k k):(∀o,x≠ .g o)/\x≠ .t:=J hc<|⟨fun Y=>Ow.noConfusion,Ow.noConfusion⟩
theorem Qj{x:Ow}{k:Nat}(hc:x=.k k){o:Obj}:x≠ .f o:=J hc<|Ow.noConfusion
theorem PX{x:Ow}{k:Nat}(hc:x=.k k){o:Obj}:x.ob≠some o:=J hc<|fun q=>nn q
theorem J7{x:Ow}{k j:Nat}(hc:x=.k k)(hd:x=.k j):k=j:=by rw [hc] at hd;cases hd;rfl
inductive Nw(h:Heap)(a:Addr):Ow->Prop
 |free:Nw h a .free
 |g (o:Obj):h.get? a=some o->Nw h a (.g o)
 |f (o:Obj):h.get? a=some o->Nw h a (.f o)
theorem Nw.ok(n:Nw h a x):(∀o,x.ob=some o->h.get? a=some o)/\(h.get? a=none->x=.free):=by
 cases n with
 |free=>exact⟨fun o e=>nn e,fun Y=>rfl⟩
 |g o e=>exact⟨fun o' q=>by exact bt q<|e,fun q=>by rw [e] at q;exact nn (Eq.symm q)⟩
 |f o e=>exact⟨fun o' q=>by exact bt q<|e,fun q=>by rw [e] at q;exact nn (Eq.symm q)⟩
noncomputable def VS.put{h':Heap}(a:Addr)(x:Ow)(tk:Tok)(op:pX σ.g a)(hh:∀c,c≠a->σ.g.w c≠ .free->h'.get? c=σ.s.heap.get? c)(nw:Nw h' a x):VS:=⟨σ.sh h' tk,σ.g.put a x,σ.H,
 σ.r.gen (· =a) (put_le op.ng) (fun Y c=>kU c x) hh (fun c q=>q▸⟨op.ng,op.nt⟩) (fun c q=>by(refine J q<|J (cQ _ _ _) ?_);exact nw.ok) σ.r.new rfl fun k o e=>.inr (.inr ⟨e,fun c q=>q▸op.nk k⟩)⟩
theorem VS.put_le{tk:Tok}{op:pX σ.g a}{hh:∀c,c≠a->σ.g.w c≠ .free->h'.get? c=σ.s.heap.get? c}{nw:Nw h' a x}(n:(∀o,σ.g.w a≠ .f o)\/P a):Le P σ (σ.put a x tk op hh nw):=
 ⟨Mine.Internal.put_le op.ng,fun b o e nP=>(kU (fun(q:b=a)=>n.elim (fun n=>n o (q▸e)) fun n=>nP (q▸n)) x).trans e,rfl⟩
noncomputable def VS.psh(o:Obj)(x:Ow)(tk:Tok)(nw:Nw (σ.s.heap.push o) σ.s.heap.objs.size x):VS:=σ.put σ.s.heap.objs.size x tk (.mk (.inl (σ.r.live _ (bu _)))) (fun c n m=>σ.r.same (fP _ _) c m) nw
theorem VS.psh_le{tk:Tok}{nw:Nw (σ.s.heap.push o) σ.s.heap.objs.size x}:Le P σ (σ.psh o x tk nw):=σ.put_le (.inl fun o e=>by rw [σ.r.live _ (bu _)] at e;exact Ow.noConfusion e)
def VS.mk1{h':Heap}(a d:Addr)(o:aB)(tk:Tok)(oa:pX σ.g a)(od:pX σ.g d)(hh:∀c,c≠a->c≠d->σ.g.w c≠ .free->h'.get? c=σ.s.heap.get? c)(la:h'.get? a≠none)(ld:h'.get? d≠none)(q:OR (σ.g.own σ.H.next (a,d)) h' a d o):VS:=⟨σ.sh h' tk,σ.g.own σ.H.next (a,d),σ.H.new o,by
 obtain e:=iw (x:=(a,d)) (.inl (σ.r.new _ (QR _))) oa.ng od.ng
 refine σ.r.gen (fun c=>c=a\/c=d) e (fun c n=>QN n) (fun c n=>hh c (fun q=>n (.inl q)) fun q=>n (.inr q)) (fun c q=>q.elim (fun q=>q▸⟨oa.ng,oa.nt⟩) fun q=>q▸⟨od.ng,od.nt⟩)
  (fun c q=>⟨fun o' z=>nn ((congrArg Ow.ob (QM q)).symm.trans z),fun z=>q.elim (fun q=>absurd (q▸z) la) fun q=>absurd (q▸z) ld⟩) (fun k hk=>?_) (σ.H.used_new o) fun k o' z=>?_
 ·obtain hk:=(Hp.next_new _ _)▸hk;exact(QN fun q=>Nat.lt_irrefl _ (QW (QS _) (q▸hk))).trans (σ.r.new k (Nat.le_of_succ_le hk))
 ·rw [Hp.obj_new] at z;by_cases c:k=σ.H.next
  ·rw [if_pos c] at z;exact bt z<| .inr (.inl ⟨a,d,if_pos c,(QM (.inl rfl)).trans (congrArg Ow.k c.symm),(QM (.inr rfl)).trans (congrArg Ow.k c.symm),q⟩)
  ·rw [if_neg c] at z;exact .inr (.inr ⟨z,fun c q=>q.elim (fun q=>q▸oa.nk k) fun q=>q▸od.nk k⟩)⟩
theorem VS.mk1_le{P:Addr->Prop}{h':Heap}{a d:Addr}{o:aB}{tk:Tok}{oa:pX σ.g a}{od:pX σ.g d}{hh:∀c,c≠a->c≠d->σ.g.w c≠ .free->h'.get? c=σ.s.heap.get? c}{la:h'.get? a≠none}{ld:h'.get? d≠none}{q:OR (σ.g.own σ.H.next (a,d)) h' a d o}
  (na:(∀o,σ.g.w a≠ .f o)\/P a)(nd:(∀o,σ.g.w d≠ .f o)\/P d):Le P σ (σ.mk1 a d o tk oa od hh la ld q):=
 ⟨iw (.inl (σ.r.new _ (QR _))) oa.ng od.ng,fun b o e nP=>(QN fun q=>q.elim (fun(q:b=a)=>na.elim (fun n=>n o (q▸e)) fun n=>nP (q▸n)) fun(q:b=d)=>nd.elim (fun n=>n o (q▸e)) fun n=>nP (q▸n)).trans e,rfl⟩
def VS.upd{h':Heap}(k:Nat)(o:aB)(c:Addr)(tk:Tok)(hc:σ.g.w c=.k k)(hh:∀b,b≠c->σ.g.w b≠ .free->h'.get? b=σ.s.heap.get? b)(lc:h'.get? c≠none)(q:o=.gone\/Mz σ.g h' k o):VS:=⟨σ.sh h' tk,σ.g,σ.H.set k o,
 σ.r.gen (· =c) (.refl _) (fun Y Y=>rfl) hh (fun b e=>e▸ME hc) (fun b e=>e▸⟨fun o z=>absurd z (PX hc),fun z=>absurd z lc⟩) (fun j hj=>σ.r.new j (by rwa [Hp.next_set] at hj)) (σ.H.used_set k o) fun j o' z=>by
  rw [Hp.obj_set] at z;by_cases n:j=k
  ·rw [if_pos n] at z;exact bt z<|J n<|q.imp id .inl
  ·rw [if_neg n] at z;exact .inr (.inr ⟨z,fun b e y=>n (J7 (e▸y) hc)⟩)⟩
theorem VS.upd_le{P:Addr->Prop}{h':Heap}{k:Nat}{o:aB}{c:Addr}{tk:Tok}{hc:σ.g.w c=.k k}{hh:∀b,b≠c->σ.g.w b≠ .free->h'.get? b=σ.s.heap.get? b}{lc:h'.get? c≠none}{q:o=.gone\/Mz σ.g h' k o}:Le P σ (σ.upd k o c tk hc hh lc q):=⟨.refl _,fun Y Y e Y=>e,rfl⟩
def VS.lend(k:Nat)(a:Addr)(x:Ow)(hc:σ.g.w a=.k k)(nw:Nw σ.s.heap a x):VS:=⟨σ.s,σ.g.put a x,σ.H.set k .gone,
 σ.r.gen (· =a) (Mine.Internal.put_le (ME hc).1) (fun Y c=>kU c x) (fun Y Y Y=>rfl) (fun b e=>e▸ME hc) (fun c q=>by(refine J q<|J (cQ _ _ _) ?_);exact nw.ok) (fun j hj=>σ.r.new j (by rwa [Hp.next_set] at hj)) (σ.H.used_set k .gone) fun j o' z=>by
  rw [Hp.obj_set] at z;by_cases n:j=k
  ·rw [if_pos n] at z;exact bt z<| .inl rfl
  ·rw [if_neg n] at z;exact .inr (.inr ⟨z,fun b e y=>n (J7 (e▸y) hc)⟩)⟩
theorem VS.lend_le{hc:σ.g.w a=.k k}{nw:Nw σ.s.heap a x}:Le P σ (σ.lend k a x hc nw):=
 ⟨Mine.Internal.put_le (ME hc).1,fun b o e Y=>(kU (fun q=>Qj hc (q▸e)) x).trans e,rfl⟩
def VS.back(k:Nat)(a:Addr)(o:aB)(hm:σ.g.m k=some (a,a))(oa:pX σ.g a)(la:σ.s.heap.get? a≠none)(q:OR σ.g σ.s.heap a a o):VS:=⟨σ.s,σ.g.own k (a,a),σ.H.set k o,by
 have e:=iw (.inr hm) oa.ng oa.ng
 refine σ.r.gen (· =a) e (fun c n=>QN fun q=>n (q.elim id id)) (fun Y Y Y=>rfl) (fun c q=>q▸⟨oa.ng,oa.nt⟩) (fun c q=>⟨fun o' z=>nn ((congrArg Ow.ob (QM (.inl q))).symm.trans z),fun z=>absurd (q▸z) la⟩)
  (fun j hj=>?_) (σ.H.used_set k o) fun j o' z=>?_
 ·rw [Hp.next_set] at hj;have z:=σ.r.new j hj;exact(QN fun q=>by rw [q,hm] at z;exact nn (Eq.symm z)).trans z
 ·rw [Hp.obj_set] at z;by_cases n:j=k
  ·rw [if_pos n] at z;exact bt z<| .inr (.inl ⟨a,a,if_pos n,(QM (.inl rfl)).trans (congrArg Ow.k n.symm),(QM (.inl rfl)).trans (congrArg Ow.k n.symm),q.mono e rfl rfl⟩)
  ·rw [if_neg n] at z;exact .inr (.inr ⟨z,fun c q=>q▸oa.nk j⟩)⟩
theorem VS.back_le(na:P a):Le P σ (σ.back k a o hm oa la q):=
 ⟨iw (.inr hm) oa.ng oa.ng,fun b o e nP=>(QN fun(q:b=a\/b=a)=>nP (q.elim (fun q=>q▸na) fun q=>q▸na)).trans e,rfl⟩
variable{σ}
theorem VS.obj(e:σ.H.obj k=some o)(n:o≠ .gone)(r:VR σ.g (.ref k) u):∃a d,u=.ref a/\σ.g.m k=some (a,d)/\σ.g.w a=.k k/\σ.g.w d=.k k/\OR σ.g σ.s.heap a d o:=by refine dy (HC r) fun a d eu em=>br ((σ.r.has k o e).resolve_left n) fun a' d' e1 e2 e3 e4=>?_;rw [em] at e1;refine xA (pj e1) fun ρ0 ρ1=>?_;subst ρ0;subst ρ1;exact⟨a,d,eu,em,e2,e3,e4⟩
theorem VS.list(e:σ.H.obj k=some (.list rs c))(r:VR σ.g (.ref k) u):∃a vs n,u=.ref a/\σ.g.m k=some (a,a)/\σ.g.w a=.k k/\c=rs.length/\σ.s.heap.get? a=some {cls:=.type "list",data:=.seq vs n}/\c6 σ.g rs.reverse vs.toList:=by refine bf (σ.obj e (fun q=>nomatch q) r) fun a d e1 e2 e3 Y ρ6 ψ0=>x5 ψ0 fun e5 vs n ψ1=>xA ψ1 fun e6 e7=>?_;subst ρ6;exact⟨_,vs,n,e1,e2,e3,e5,e6,e7⟩
theorem VS.dI(e:σ.H.obj k=some (.dI es ep))(r:VR σ.g (.ref k) u):∃a bn,u=.ref a/\σ.g.m k=some (a,a)/\σ.g.w a=.k k/\(es.map (·.1)).Nodup/\σ.s.heap.get? a=some {cls:=.type "dict",data:=.dict bn ep}/\aT (ER kO σ.g) es bn.toList:=by refine bf (σ.obj e (fun q=>nomatch q) r) fun a d e1 e2 e3 Y ρ6 ψ0=>og ψ0 fun e5 bn e6 e7=>?_;subst ρ6;exact⟨_,bn,e1,e2,e3,e5,e6,e7⟩
theorem VS.dL(e:σ.H.obj k=some (.dL es ep))(r:VR σ.g (.ref k) u):∃a bn,u=.ref a/\σ.g.m k=some (a,a)/\σ.g.w a=.k k/\σ.s.heap.get? a=some {cls:=.type "dict",data:=.dict bn ep}/\aT (ER litKind σ.g) es bn.toList:=by refine bf (σ.obj e (fun q=>nomatch q) r) fun a d e1 e2 e3 Y ρ6 ψ0=>an ψ0 fun bn e6 e7=>?_;subst ρ6;exact⟨_,bn,e1,e2,e3,e6,e7⟩
theorem VS.inst(e:σ.H.obj k=some (.inst c fs))(r:VR σ.g (.ref k) u):∃a d bn n,u=.ref a/\σ.g.m k=some (a,d)/\σ.g.w d=.k k/\a≠d/\σ.s.heap.get? a=some (instObj (dQ c) d)/\(∀p∈fs,kR c p.1=true)/\σ.s.heap.get? d=some {cls:=.type "dict",data:=.dict bn n}/\aT (EJ σ.g) fs bn.toList:=by exact bf (σ.obj e (fun q=>nomatch q) r) fun a d e1 e2 e3 e4 e5 ψ0=>fp ψ0 fun e6 e7 ψ7=>dy ψ7 fun bn n e8 e9=>⟨a,d,bn,n,e1,e2,e4,e5,e6,e7,e8,e9⟩
theorem VS.lst(e:gV σ.H v=some xs)(r:VR σ.g v u):∃a vs n,u=.ref a/\σ.s.heap.get? a=some {cls:=.type "list",data:=.seq vs n}/\c6 σ.g xs vs.toList:=by
 refine Or.elim (yR e) (fun ρ=>?_) fun ρ=>?_
 ·subst ρ;refine aI (Fe r) fun a vs n e1 e2 e3=>⟨a,vs,n,e1,σ.r.ex a _ (by refine J e2 ?_;rfl),e3⟩
 ·refine aI ρ fun i rs c ρ3 e1 ρ5=>?_;subst ρ3;subst ρ5;exact bI (σ.list e1 r) fun a vs n e1 Y Y Y e5 e6=>⟨a,vs,n,e1,e5,e6⟩
theorem VS.tup(r:VR σ.g (.tup xs) u):∃a vs n,u=.ref a/\σ.s.heap.get? a=some {cls:=.type "tuple",data:=.seq vs n}/\c6 σ.g xs vs.toList:=by refine aI (AA r) fun a vs n e1 e2 e3=>⟨a,vs,n,e1,σ.r.ex a _ (by refine J e2 ?_;rfl),e3⟩
theorem VS.kin(σ:VS)(hK:K.In h₀)(nt:K.lookup dN=none):K.In σ.s.heap:=fun a o e=>σ.r.ex a o (by refine J (σ.r.base a o (hK a o e) fun c=>by(obtain e:=c▸e;obtain e:=nt▸e);exact nn e) ?_;rfl)
end
end
section
set_option maxRecDepth 100000
open PySem PySem.Calls PyProof.Rows PySem.W PySem.SeqAt
section
variable{h:Heap}{x y v:V}{u z val:Value}{A:Around}{s:Shared}{σ:VS}
def MF:At->Value->Prop
 |.n,u=>u=.none
 |.i x,u=>∃t,u=.int x t
 |.l n,u=>∃t,u=.str (am n) t
 |.t s,u=>∃t,u=.str s t
theorem qA(e:Ke v=some a)(r:VR g v u):MF a u:=by
 cases v<;>first|exact nn e|skip
 ·exact bt e<|C7 r
 ·exact bt e<|cH r
 ·exact bt e<|dh r
 ·exact bt e<|yk r
noncomputable def LU(u z:Value):Bool:=match u with
 |.none=>match z with
  |.none=>true
  |_=>false
 |.int a _=>match z with
  |.int b _=>a == b
  |_=>false
 |.str a _=>match z with
  |.str b _=>a == b
  |_=>false
 |_=>false
theorem Od(a b:Int):iE a b=(a == b):=by refine J (d7 _ _) ?_;rfl
theorem Mw(a b:Nat):Nat.beq a b=(am a == am b):=by
 refine J (natE _ _) ?_;by_cases e:a=b
 ·exact J e<|J (QO rfl)<|J (beq_self_eq_true _) rfl
 ·exact J (QP e)<|J (beq_eq_false_iff_ne.mpr fun q=>e (nB _ _ q)) rfl
theorem DG(a b:Str):Fast.sEq a b=(a == b):=by
 refine fE (Fast.sEq a b) (fun e=>?_) fun e=>?_
 ·exact J (Fast.sEq_iff.mp e)<|J (beq_self_eq_true _) rfl
 ·exact(beq_eq_false_iff_ne.mpr fun q=>by rw [Fast.sEq_iff.mpr q] at e;exact nomatch e).symm
theorem Me (e:aE a d=some c) (r:MF a u) (q:MF d z):c=LU u z/\RcAt A s u z c/\RcNeAt A s u z (!c):=by
 cases a<;>cases d<;>first|exact nn e|skip
 all_goals
  refine bt e ?_
  first|refine xE r fun Y ρ=>?_;refine J ρ ?_ |subst r
  first|refine xE q fun Y ρ=>?_;subst ρ|subst q
  first|refine J (Od _ _) ?_ |refine J (Mw _ _) ?_ |refine J (DG _ _) ?_ |skip
 ·exact⟨rfl,.none_none,.none_none⟩
 ·exact⟨rfl,.none_int _ _,.none_int _ _⟩
 ·exact⟨rfl,.none_str _ _,.none_str _ _⟩
 ·exact⟨rfl,.none_str _ _,.none_str _ _⟩
 ·exact⟨rfl,.int_none _ _,.int_none _ _⟩
 ·exact⟨rfl,.int_int _ _ _ _,.int_int _ _ _ _⟩
 ·exact⟨rfl,.int_str _ _ _ _,.int_str _ _ _ _⟩
 ·exact⟨rfl,.int_str _ _ _ _,.int_str _ _ _ _⟩
 ·exact⟨rfl,.str_none _ _,.str_none _ _⟩
 ·exact⟨rfl,.str_int _ _ _ _,.str_int _ _ _ _⟩
 ·exact⟨rfl,.str_str _ _ _ _,.str_str _ _ _ _⟩
 ·exact⟨rfl,.str_none _ _,.str_none _ _⟩
 ·exact⟨rfl,.str_int _ _ _ _,.str_int _ _ _ _⟩
 ·exact⟨rfl,.str_str _ _ _ _,.str_str _ _ _ _⟩
theorem nv(r:MF a u):LU u u=true/\∀p q,u≠ .float p q:=by cases a<;>(first|refine xE r fun Y ρ=>?_;subst ρ|subst r)<;>exact⟨by first|rfl|exact beq_self_eq_true _,fun Y Y=>Value.noConfusion⟩
theorem yM(e:rL x y=some c):∃a d,Ke x=some a/\Ke y=some d/\aE a d=some c:=by exact an (ah e) fun a e1 e=>an (ah e) fun d e2 e=>⟨a,d,e1,e2,e⟩
theorem rO(h:RcAt A s u z b)(hb:u=z->b=true)(hf:∀x y,u≠ .float x y):EqAt A s u z b:=fun prog w E Q hq=>by
 delta eqBool;refine QE<|wpAny_ite_split (fun hab=>?_) (fun Y=>?_)
 ·obtain this:=hb (eq_of_beq hab);subst this;exact QC (wpAny_rule (QD hq))
 ·cases u with
  |float x y=>exact(hf x y rfl).elim
  |_=>exact QC (h prog w E _ (wpAny_truthy_bool hq))
theorem mF(e:rL x y=some c)(r:VR g x u)(q:VR g y z):c=LU u z/\RcAt A s u z c/\RcNeAt A s u z (!c)/\EqAt A s u z c:=by refine bV (yM e) fun a d e1 e2 e3=>?_;have ra:=qA e1 r;refine fp (Me e3 ra (qA e2 q)) fun h1 h2 h3=>⟨h1,h2,h3,rO h2 (fun hz=>by(refine J h1<|aQ hz ?_);exact(nv ra).1) (nv ra).2⟩
noncomputable def OS:List Value->List Value->Bool
 | [],[]=>true
 |u::us,z::zs=>and (LU u z) (OS us zs)
 |_,_=>false
theorem Bm{R:V->V->Value->Value->Bool->Prop}(hf:∀x y u z c,f x y=some c->VR g x u->VR g y z->R x y u z c){xs:List V}{us:List Value}(r:c6 g xs us):∀{ys:List V} {b:Bool} {zs:List Value},tV f xs ys=some b->c6 g ys zs->
  ∃e:Nat->Bool,b=((List.range (min us.length zs.length)).all e && us.length == zs.length)/\∀i u z,us[i]? =some u->zs[i]? =some z->∃x y,R x y u z (e i):=by
 induction r with
 |nil=>intro ys b zs e q;refine⟨fun Y=>true,?_,fun i u z h=>nn h⟩;cases q<;>exact(sj e).symm
 | @cons x u xs us r1 r2 ih=>
  intro ys b zs e q
  cases q with
  |nil=>exact⟨fun Y=>true,(sj e).symm,fun i u z Y h=>nn h⟩
  | @cons y z ys zs q1 q2=>
   refine an (ah e) fun c e1 e=>an (ah e) fun d e2 e=>bt e<|an (ih e2 q2) fun k h1 h2=>⟨fun i=>@Nat.casesOn (fun Y=>Bool) i c k,?_,fun i=>?_⟩
   ·refine J h1<|J QK<|J QK<|J (Nat.succ_min_succ _ _)<|J List.range_succ_eq_map<|J List.all_cons<|J List.all_map<|J (Bool.and_assoc _ _ _) ?_;exact congrArg (fun q:Bool=>and c (_ && q)) (by(refine jj Bool.eq_iff_iff<|jj beq_iff_eq<|jj beq_iff_eq ?_);exact⟨congrArg Nat.succ,Nat.succ.inj⟩)
   ·cases i with
    |zero=>intro u' z' a b;exact⟨x,y,sj a▸sj b▸hf _ _ _ _ _ e1 r1 q1⟩
    |succ i=>exact h2 i
theorem Ch(r:c6 g xs us):∀{ys:List V} {b:Bool} {zs:List Value},tV rL xs ys=some b->c6 g ys zs->b=OS us zs:=by
 induction r with
 |nil=>intro ys b zs e q;cases q<;>exact(sj e).symm
 |cons r1 r2 ih=>
  intro ys b zs e q
  cases q with
  |nil=>exact(sj e).symm
  |cons q1 q2=>refine an (ah e) fun c e1 e=>an (ah e) fun d e2 e=>bt e ?_;(refine J ((mF (A:={}) (s:={}) e1 r1 q1).1)<|J (ih e2 q2) ?_);rfl
theorem Bp(r:c6 g xs us):∀{b:Bool} {ys:List V},tV rL xs ys=some b->c6 g ys us->b=true:=by
 induction r with
 |nil=>intro b ys e q;cases ys with
  |nil=>exact(sj e).symm
  |cons=>exact nomatch q.length
 |cons r1 r2 ih=>
  intro b ys e q
  cases ys with
  |nil=>exact nomatch q.length
  |cons y ys=>refine aT.c2 q fun q1 q2=>an (ah e) fun c e1 e=>an (ah e) fun d e2 e=>bt e<|bV (yM e1) fun a d' e3 Y Y=>?_;(refine J ((mF (A:={}) (s:={}) e1 r1 q1).1)<|J (ih e2 q2)<|J ((nv (qA e3 r1)).1) ?_);rfl
noncomputable def Ce(h:Heap)(u z:Value):Bool:=match u with
 |.ref a=>match z with
  |.ref d=>match h.get? a,h.get? d with
   |some o,some o'=>match o.data,o'.data with
    |.seq us _,.seq zs _=>OS us.toList zs.toList
    |_,_=>false
   |_,_=>false
  |_=>false
 |u=>LU u z
theorem cG(q:h.get? a=some {cls:=.type "tuple",data:=.seq vs n}):h.IsTuple a vs:=⟨_,q,rfl,n,rfl⟩
theorem aU{n:Nat}(q:h.get? a=some {cls:=.type "list",data:=.seq vs n}):h.IsList a vs:=⟨_,q,rfl,n,rfl⟩
theorem EN(e:lR x y=some c):(∃xs ys,x=.tup xs/\y=.tup ys/\tV rL xs ys=some c)\/rL x y=some c:=by
 refine Or.elim (bY e) (fun ρ=>?_) fun ρ=>?_
 ·exact an ρ fun xs e1 e=>an (ah e) fun ys e2 e=>.inl ⟨xs,ys,iH e1,iH e2,e⟩
 ·exact xA ρ fun Y e=>.inr e
theorem mi{vs:Array Value}{j:Nat}(hj:j < vs.size):vs.toList[j]? =some vs[j]:=by refine J (Array.getElem?_toList) ?_;exact Array.getElem?_eq_getElem hj
theorem mv(hu:A.units < cLine)(e:lR x y=some c)(r:VR σ.g x u)(q:VR σ.g y z):c=Ce σ.s.heap u z/\RcAt A σ.s u z c/\EqAt A σ.s u z c:=by
 refine Or.elim (EN e) (fun ρ=>?_) fun e=>?_
 ·refine bV ρ fun xs ys ρ2 ρ3 e=>?_;subst ρ2;subst ρ3;refine aI (VS.tup r) fun a us n ρ ha ra=>J ρ<|aI (VS.tup q) fun d zs m ρ hd rd=>?_;subst ρ;have rc:RcAt A σ.s (.ref a) (.ref d) c:=by refine an (Bm (R:=fun Y Y u z c=>EqAt A.in1 σ.s u z c) (fun Y Y Y Y Y e r q=>(mF e r q).2.2.2) ra e rd) fun k h1 h2=>?_;obtain this:=RcAt.tuples (cG ha) (cG hd) hu fun j j1 j2=>(h2 j _ _ (mi j1) (mi j2)).elim fun Y t=>t.elim fun Y t=>t;refine J h1 ?_;simpa only[Array.length_toList] using this
  refine⟨?_,rc,rO rc (fun hz=>?_) fun Y Y=>Value.noConfusion⟩
  ·refine J (Ch ra e rd) ?_;simp only[Ce,ha,hd]
  ·obtain rfl:=Value.ref.inj hz;rw [ha] at hd;cases hd;exact Bp ra e rd
 ·refine fi (mF e r q) fun h1 h2 Y h4=>⟨h1.trans ?_,h2,h4⟩
  refine bV (yM e) fun a Y e1 Y Y=>?_;have rv:=qA e1 r;clear h1 h2 h4 r;cases a<;>(first|refine xE rv fun Y ρ=>?_;refine J ρ ?_ |subst rv)<;>rfl
end
section
variable{h:Heap}{x y v d:V}{σ:VS}
structure Gl:Prop where
 kin:K.In h₀
 nt:K.lookup dN=none
 sys:∃o,h₀.get? sysModules=some o
 gd:∀n,qo n≠ []->MA n≠dN/\(MA n == sysModules)=false/\∃bn ep,h₀.get? (MA n)=some {cls:=.type "dict",data:=.dict bn ep}/\∀g,aT (ER litKind g) (qo n) bn.toList
theorem dP(G:Gl)(e:σ.g.w D=.k k):(D == sysModules)=false:=by refine jj beq_eq_false_iff_ne ?_;intro c;refine xE G.sys fun o ho=>?_;rw [c,σ.r.base _ o ho (by decide)] at e;exact Ow.noConfusion e
theorem hJ(p:α->Bool)(a:Array α):a.findIdx? p=a.toList.findIdx? p:=by obtain⟨l⟩:=a;simp
section
variable{α:Type} [DecidableEq α]{eM:KeyKind prog w α}{eq:α->α->Bool}{es:List (α×V)}{l:List DictEntry}
inductive OD(eM:KeyKind prog w α)(eq:α->α->Bool)(g:Gh)(es:List (α×V))(l:List DictEntry)(k:α):Prop
 |yes (i:Nat) (d:DictEntry) (v:V):l.findIdx? (fun e=>eM.is k e.key)=some i->l[i]? =some d->aL eq es k=some v->VR g v d.val->(∀v' val,VR g v' val->aT (ER eM g) (aP eq k v' es) (l.modify i fun e=>{e with val:=val}))->aT (ER eM g) (aD eq k es) (l.eraseIdx i)->OD eM eq g es l k
 |no:l.findIdx? (fun e=>eM.is k e.key)=none->aL eq es k=none->(∀v' d,ER eM g (k,v') d->aT (ER eM g) (aP eq k v' es) (l++ [d]))->OD eM eq g es l k
theorem Ov(he:nG eq)(a:aT (ER eM g) es l)(k:α):OD eM eq g es l k:=by
 induction a with
 |nil=>exact .no rfl rfl fun v' d q=>.cons q .nil
 | @cons e d es l r t ih=>
  obtain⟨a,x⟩:=e;by_cases c:a=k
  ·have z:eM.is k d.key=true:=c▸r.key;refine .yes 0 d x ?_ rfl (s0 he c x es) r.val (fun v' val q=>?_) ?_
   ·(refine J (List.findIdx?_cons) ?_;refine J z ?_);rfl
   ·exact J (xw he c _ _ _)<| .cons ⟨r.key,r.hash,q⟩ t
   ·exact J (FZ he c _ _)<|t
  ·have z:eM.is k d.key=false:=by refine J (KeyKind.is_eq_decide r.key _)<|QP fun q=>c q.symm
   cases ih with
   |yes i d' v e1 e2 e3 e4 e5 e6=>
    refine .yes (i+1) d' v ?_ e2 ((lW he c x es).trans e3) e4 (fun v' val q=>?_) ?_
    ·(refine J (List.findIdx?_cons) ?_;refine J z<|J e1 ?_);rfl
    ·exact J (rR he c _ _ _)<| .cons r (e5 v' val q)
    ·exact J (G3 he c _ _)<| .cons r e6
   |no e1 e2 e3=>
    refine .no ?_ ((lW he c x es).trans e2) fun v' d' q=>?_
    ·(refine J (List.findIdx?_cons) ?_;refine J z<|J e1 ?_);rfl
    ·exact J (rR he c _ _ _)<| .cons r (e3 v' d' q)
theorem mY(a:aT (ER eM g) es l):∀e∈l,∃k,eM.is k e.key=true/\e.hash=eM.hash k:=by
 induction a with
 |nil=>exact fun e he=>nomatch he
 |cons q _ ih=>
  intro e he;refine pQ he ?_ fun he=>?_
  ·exact⟨_,q.key,q.hash⟩
  ·exact ih e he
variable{bn:Array DictEntry}
theorem mapOf(ho:h.get? D=some {cls:=.type "dict",data:=.dict bn ep})(a:aT (ER eM g) es bn.toList):h.MapOf eM D (findBy eM.is bn):=⟨_,bn,ep,ho,⟨rfl,rfl,rfl⟩,rfl,fun e he=>mY a e (Array.mem_toList_iff.mpr he),fun Y=>rfl⟩
theorem jc(he:nG eq)(a:aT (ER eM g) es bn.toList)(k:α):(∃v val,aL eq es k=some v/\findBy eM.is bn k=some val/\VR g v val)\/aL eq es k=none/\findBy eM.is bn k=none:=by
 refine J (findBy_of_findIdx? _ _ _)<|J (hJ _ _) ?_
 cases Ov he a k with
 |yes i d v e1 e2 e3 e4=>refine J e1<| .inl ⟨v,d.val,e3,by refine(?_ :(bn[i]?).map _=_);(refine aQ (Array.getElem?_toList) ?_;refine J e2 ?_);rfl,e4⟩
 |no e1 e2=>refine J e1 ?_;exact .inr ⟨e2,rfl⟩
end
theorem qP(G:Gl){P:Value->Prop}(e:mw σ.H d x=some o)(rd:VR σ.g d u)(rx:VR σ.g x xv)(f:∀(α:Type) (_:DecidableEq α) (eM:KeyKind prog w α) (eq:α->α->Bool) (es:List (α×V)) (k:α) (D:Addr) (bn:Array DictEntry) (ep:Nat),nG eq->
  σ.s.heap.get? D=some {cls:=.type "dict",data:=.dict bn ep}->(D == sysModules)=false->aT (ER eM σ.g) es bn.toList->eM.is k xv=true->o=aL eq es k->P (.ref D)):P u:=by
 have lit:∀{k},di x=some k->litKind.is k xv=true:=fun q=>by obtain rx:=(iy q)▸rx;exact xE (dh rx) fun t ρ=>J ρ<|beq_self_eq_true _
 refine Or.elim (bY e) (fun ρ=>?_) fun ρ=>?_
 ·refine an ρ fun n e1 e=>xA (aW e) fun e2 e=>an (ah e) fun k e3 e=>?_;obtain rd:=(Jo e1)▸rd;cases rd;obtain ne:qo n≠ []:=fun q=>by obtain e2:=q▸e2;exact d_ e2
  refine fp (G.gd n ne) fun h1 h2 ψ7=>dy ψ7 fun bn ep h3 h4=>f _ _ litKind _ _ k _ bn ep natE (σ.r.ex _ _ (by refine J (σ.r.base _ _ h3 h1) ?_;rfl)) h2 (h4 _) (lit e3) (Option.some.inj e).symm
 ·obtain⟨_,e⟩:=ρ;refine Or.elim (ff e) (fun ρ=>?_) fun e=>?_
  ·obtain⟨i,es,ep,rfl,e1,e⟩:=ρ;refine an (ah e) fun k e3 e=>bf (σ.dI e1 rd) fun D bn ρ Y hw Y ho a=>J ρ ?_;rw [cM e3] at rx;refine xE (cH rx) fun t ρ=>?_;subst ρ;exact f _ _ kO _ _ k D bn ep d7 ho (dP G hw) a (beq_self_eq_true k) (Option.some.inj e).symm
  ·refine Or.elim (uQ e) (fun ρ=>?_) fun e=>?_
   ·obtain⟨i,es,ep,rfl,e1,e⟩:=ρ;exact an (ah e) fun k e3 e=>gY (σ.dL e1 rd) fun D bn ρ Y hw ho a=>J ρ<|f _ _ litKind _ _ k D bn ep natE ho (dP G hw) a (lit e3) (Option.some.inj e).symm
   ·exact nn e
theorem ID(G:Gl)(e:mw σ.H d x=some (some v))(rd:VR σ.g d u)(rx:VR σ.g x xv)(hQ:∀val tk,VR σ.g v val->Q val {σ.s with toks:=tk}):(∃D,u=.ref D/\σ.s.TypeIs u "dict")/\wpAny M A (getItem u xv) Q E σ.s:=by
 refine qP (P:=fun u=>(∃D,u=.ref D/\σ.s.TypeIs u "dict")/\wpAny M A (getItem u xv) Q E σ.s) G e rd rx fun α Y eM eq es k D bn ep he ho Y a hk ho'=>Or.elim (jc he a k) (fun ρ=>?_) fun ρ=>?_
 ·refine bV ρ fun v' val e1 e2 e3=>?_;rw [e1] at ho';obtain rfl:=sj ho';exact⟨⟨D,rfl,_,ho,rfl⟩,wpAny_getItem_of hk (mapOf ho a) e2 (hQ val _ e3)⟩
 ·refine xA ρ fun e1 Y=>?_;rw [e1] at ho';exact nn (Eq.symm ho')
theorem Jq(G:Gl)(e:mw σ.H d x=some o)(rd:VR σ.g d u)(rx:VR σ.g x xv):
  ((∀tk,Q (.bool o.isSome) {σ.s with toks:=tk})->wpAny M A (compareOp .In xv u) Q E σ.s)/\((∀tk,Q (.bool (!o.isSome)) {σ.s with toks:=tk})->wpAny M A (compareOp .NotIn xv u) Q E σ.s):=by
 refine qP (P:=fun u=>((∀tk,Q (.bool o.isSome) {σ.s with toks:=tk})->wpAny M A (compareOp .In xv u) Q E σ.s)/\((∀tk,Q (.bool (!o.isSome)) {σ.s with toks:=tk})->wpAny M A (compareOp .NotIn xv u) Q E σ.s)) G e rd rx fun α Y eM eq es k D bn ep he ho hD a hk ho'=>?_;have fe:(findBy eM.is bn k).isSome=o.isSome:=by refine J ho' ?_;rcases jc he a k with⟨v',val,e1,e2,e3⟩|⟨e1,e2⟩<;>(refine J e1<|J e2 ?_)<;>rfl
 exact⟨fun hQ=>wpAny_in_of hk hD (mapOf ho a) (J fe<|hQ _),fun hQ=>wpAny_notIn_of hk hD (mapOf ho a) (J fe<|hQ _)⟩
theorem Et(G:Gl)(e:mw σ.H d x=some o)(rd:VR σ.g d u)(rx:VR σ.g x xv):
  ((∀val tk,VR σ.g (@Option.rec V (fun Y=>V) .none (fun v=>v) o) val->Q val {σ.s with toks:=tk})->wpAny M A (PySem.call (.builtin "dict.get") [u,xv]) Q E σ.s)/\
  ∀dv,VR σ.g v dv->(∀val tk,VR σ.g (@Option.rec V (fun Y=>V) v (fun v=>v) o) val->Q val {σ.s with toks:=tk})->wpAny M A (PySem.call (.builtin "dict.get") [u,xv,dv]) Q E σ.s:=by
 refine qP (P:=fun u=>((∀val tk,VR σ.g (@Option.rec V (fun Y=>V) .none (fun v=>v) o) val->Q val {σ.s with toks:=tk})->wpAny M A (PySem.call (.builtin "dict.get") [u,xv]) Q E σ.s)/\
  ∀dv,VR σ.g v dv->(∀val tk,VR σ.g (@Option.rec V (fun Y=>V) v (fun v=>v) o) val->Q val {σ.s with toks:=tk})->wpAny M A (PySem.call (.builtin "dict.get") [u,xv,dv]) Q E σ.s) G e rd rx fun α Y eM eq es k D bn ep he ho hD a hk ho'=>?_
 have m:=mapOf ho a;have ty:σ.s.TypeIs (.ref D) "dict":=⟨_,ho,rfl⟩
 constructor
 ·refine fun hQ=>call_meetsIn F.slot_dict_get ty F.entry_dict_get (F.args_dict_get_2 _ _) (meets_dict_get eM D hk hD) ⟨_,m,?_⟩;rcases jc he a k with⟨v',val,e1,e2,e3⟩|⟨e1,e2⟩<;>(obtain hQ:=ho'▸hQ;obtain hQ:=e1▸hQ)<;>refine J e2 ?_
  ·exact hQ val _ e3
  ·exact hQ _ _ .none
 ·refine fun dv rdv hQ=>call_meetsIn F.slot_dict_get ty F.entry_dict_get (F.args_dict_get_3 _ _ _) (meets_dict_get_default eM D hk hD dv) ⟨_,m,?_⟩;rcases jc he a k with⟨v',val,e1,e2,e3⟩|⟨e1,e2⟩<;>(obtain hQ:=ho'▸hQ;obtain hQ:=e1▸hQ)<;>refine J e2 ?_
  ·exact hQ val _ e3
  ·exact hQ _ _ rdv
end
section
variable{x y v d:V}{u z val xv:Value}{σ:VS}
theorem dc(h:n<=65536):n<=sizeLine:=J sizeLine_eq<|ai 0x10000105001001000000105040001 rfl h
section
variable{α:Type} [DecidableEq α]{es:List (α×V)}{bn:Array DictEntry}
theorem tX(a:aT (ER eM g) es l):l.length=aq es:=by(exact J a.length<|J (aw _) rfl)
theorem kX(he:nG eq)(ho:σ.s.heap.get? D=some {cls:=.type "dict",data:=.dict bn ep})(a:aT (ER eM σ.g) es bn.toList)(hk:eM.is k key=true)(hl:Nat.ble (aq es) 60000=true)(rv:VR σ.g v val)
  (hQ:∀h' bL,Heap.SameBut D σ.s.heap h'->h'.get? D=some {cls:=.type "dict",data:=.dict bL (qs (aL eq es k) ep)}->aT (ER eM σ.g) (aP eq k v es) bL.toList->Q () {σ.s with heap:=h'}):
  wpAny M A (dictSetHashed D key (eM.hash k) val) Q E σ.s:=by
 have e2:=tX a;have hl:=QG hl;delta dictSetHashed
 try with_reducible refine QE ?_
 refine QC (wpAny_dictFind_of hk ho rfl (fun e he=>mY a e (Array.mem_toList_iff.mpr he)) ?_);refine J (hJ _ _) ?_
 cases Ov he a k with
 |yes i d v' e1 _ e3 _ e5 _=>
  refine J e1<|QC (wpAny_rule (QC (wpAny_updateDict ho rfl (wpAny_point (hQ _ (bn.modify i fun e=>{e with val:=val}) (Heap.SameBut.update ..) ?_ ?_)))))
  ·exact J e3<|Heap.get?_update_self _ ho rfl
  ·exact J Array.toList_modify<|e5 v val rv
 |no e1 e2' e3=>
  refine J e1<|QC (wpAny_rule (wpAny_updateDictKeys ho rfl (hQ _ (bn.push ⟨eM.hash k,key,val⟩) (Heap.SameBut.update ..) ?_ ?_)))
  ·exact J e2'<|Heap.get?_update_self _ ho rfl
  ·exact J Array.toList_push<|e3 v _ ⟨hk,rfl,rv⟩
theorem oX(he:nG eq)(ho:σ.s.heap.get? D=some {cls:=.type "dict",data:=.dict bn ep})(a:aT (ER eM σ.g) es bn.toList)(hk:eM.is k key=true)(hl:Nat.ble (aq es) 60000=true)(rv:VR σ.g v val)
  (hQ:∀h' tk bL,Heap.SameBut D σ.s.heap h'->h'.get? D=some {cls:=.type "dict",data:=.dict bL (qs (aL eq es k) ep)}->aT (ER eM σ.g) (aP eq k v es) bL.toList->Q () {σ.s with heap:=h',toks:=tk}):
  wpAny M A (dictSet D key val) Q E σ.s:=by
 delta dictSet
 try with_reducible refine QE ?_
 exact QC (eM.pyHash hk (kX (σ:=σ.tk (σ.s.toks+1)) he ho a hk hl rv fun h' bL b c d=>hQ h' _ bL b c d))
theorem zz(he:nG eq)(ho:σ.s.heap.get? D=some {cls:=.type "dict",data:=.dict bn ep})(a:aT (ER eM σ.g) es bn.toList)(hk:eM.is k key=true)(hl:Nat.ble (aq es) 60000=true)(rv:VR σ.g v val)
  (hQ:∀h' tk bL,Heap.SameBut D σ.s.heap h'->h'.get? D=some {cls:=.type "dict",data:=.dict bL (qs (aL eq es k) ep)}->aT (ER eM σ.g) (aP eq k v es) bL.toList->Q () {σ.s with heap:=h',toks:=tk}):
  wpAny M A (setItem (.ref D) key val) Q E σ.s:=by
 have hT:σ.s.TypeIs (.ref D) "dict":=⟨_,ho,rfl⟩
 delta setItem
 try with_reducible refine QE ?_
 refine QC (wpAny_sequenceKey hT (by decide) ?_);refine QC (wpAny_callSpecial?_slot hT slot_dict_setitem (wpAny_call_entry slot_dict_setitem hT entry_dict_setitem ?_ (args_dict_setitem _ _ _)));refine QC (wpAny_notOrdered_dict hT ?_);refine(?_ :wpAny _ _ (dictSet D key val >>= _) _ _ _);exact QC (oX he ho a hk hl rv fun h' tk bL b c d=>QD ⟨.none,rfl,wpAny_pure (hQ h' tk bL b c d)⟩)
theorem xH{α:Type}{a:Array α}{i:Nat}:(a.eraseIdxIfInBounds i).size<=a.size+1:=by
 delta Array.eraseIdxIfInBounds;split
 ·exact J (Array.size_eraseIdx _ _)<|ai 0x1850010010c6005040002 rfl (Nat.sub_le _ _)
 ·exact lin 0x10c5005000001 rfl _
theorem vy(he:nG eq)(ho:σ.s.heap.get? D=some {cls:=.type "dict",data:=.dict bn ep})(a:aT (ER eM σ.g) es bn.toList)(hk:eM.is k key=true)(hl:Nat.ble (aq es) 60000=true){Q:Option DictEntry->Shared->Prop}
  (hn:aL eq es k=none->Q none {σ.s with toks:=σ.s.toks+1})
  (hs:∀v e h' bL,aL eq es k=some v->VR σ.g v e.val->Heap.SameBut D σ.s.heap h'->h'.get? D=some {cls:=.type "dict",data:=.dict bL (ep+1)}->aT (ER eM σ.g) (aD eq k es) bL.toList->Q (some e) {σ.s with heap:=h',toks:=σ.s.toks+1}):
  wpAny M A (Builtin.Dict.takeOut D key) Q E σ.s:=by
 have e2:=tX a;have hl:=QG hl;delta Builtin.Dict.takeOut
 try with_reducible refine QE ?_
 refine QC (eM.pyHash hk ?_);refine QC (wpAny_dictFind_of (s:={σ.s with toks:=σ.s.toks+1}) hk ho rfl (fun e he=>mY a e (Array.mem_toList_iff.mpr he)) ?_);refine J (hJ _ _) ?_
 cases Ov he a k with
 |no e1 e2' _=>refine J e1 ?_;exact QD (hn e2')
 |yes i d v' e1 e2' e3 e4 _ e6=>refine J e1<|QC (wpAny_dictEntries ho rfl ?_);refine J (show bn[i]? =some d by refine aQ (Array.getElem?_toList) ?_;exact e2') ?_;refine QC (wpAny_updateDictKeys (hz:=dc (by obtain this:bn.toList.length=bn.size:=QX;exact ai 0x51800450003a98041c00401c60010800100001050c0003 rfl e2 hl this)) (hf:=xH) ho rfl ?_);exact QD (hs v' d _ (bn.eraseIdxIfInBounds i) e3 e4 (Heap.SameBut.update ..) (Heap.get?_update_self _ ho rfl) (J Array.toList_eraseIdxIfInBounds<|e6))
end
theorem EF:∀{es:List (Int×V)},(es.map (·.1)).Nodup->((aP iE k v es).map (·.1)).Nodup
 | [],_=>List.nodup_cons.mpr ⟨fun m=>(nomatch m),List.Pairwise.nil⟩
 |(a,x)::r,n=>by
  rw [List.map_cons,List.nodup_cons] at n;by_cases c:a=k
  ·exact J (xw d7 c _ _ _)<|List.nodup_cons.mpr n
  ·refine J (rR d7 c _ _ _)<|J QV<|jj List.nodup_cons ?_;refine⟨fun m=>?_,EF n.2⟩;refine an (List.mem_map.mp m) fun p m e=>Or.elim (qJ d7 m) (fun q=>?_) fun q=>?_
   ·exact c (e.symm.trans q)
   ·exact n.1 (List.mem_map.mpr ⟨p,q,e⟩)
theorem Eu:∀{es:List (Int×V)},(es.map (·.1)).Nodup->((aD iE k es).map (·.1)).Nodup/\∀p∈aD iE k es,p∈es
 | [],_=>⟨List.Pairwise.nil,fun Y m=>m⟩
 |(a,x)::r,n=>by
  rw [List.map_cons,List.nodup_cons] at n;by_cases c:a=k
  ·exact J (FZ d7 c _ _)<|⟨n.2,fun Y m=>.tail _ m⟩
  ·refine xA (Eu (k:=k) n.2) fun h1 h2=>?_;refine J (G3 d7 c _ _)<|J QV<|jj List.nodup_cons ?_;refine⟨⟨fun m=>?_,h1⟩,fun p m=>?_⟩
   ·exact an (List.mem_map.mp m) fun p m e=>n.1 (List.mem_map.mpr ⟨p,h2 p m,e⟩)
   ·refine pQ m ?_ fun m=>?_
    ·exact .head _
    ·exact .tail _ (h2 p m)
theorem VS.chg(tk:Tok)(hm:σ.g.m k=some (D,D))(hw:σ.g.w D=.k k)(hs:Heap.SameBut D σ.s.heap h')(hc:h'.get? D=some oc)(q:OR σ.g h' D D o):
  ∃τ:VS,Le dH σ τ/\τ.g=σ.g/\τ.H=σ.H.set k o/\τ.s={σ.s with heap:=h',toks:=tk}:=
 ⟨σ.upd k o D tk hw (fun b n Y=>hs.2 b n) (J hc<|fun q=>nn q.symm) (.inr ⟨D,D,hm,hw,hw,q⟩),σ.upd_le,rfl,rfl,rfl⟩
def Cq(σ:VS)(H':Hp)(Q:Unit->Shared->Prop):Prop:=∀τ,Le dH σ τ->τ.H=H'->Q () τ.s
theorem Cq.go(hQ:Cq σ H' Q)(q:∃τ:VS,Le dH σ τ/\τ.g=g'/\τ.H=H'/\τ.s=s'):Q () s':=by exact bA q fun τ h1 Y h2 h3=>aQ h3<|hQ τ h1 h2
theorem nh{v:Value}:Obj.mapSeq (·.setIfInBounds j v) {cls:=.type "list",data:=.seq vs n}={cls:=.type "list",data:=.seq (vs.setIfInBounds j v) n}:=by simp[Obj.mapSeq]
theorem tR{v:Value}{Q:Unit->Shared->Prop}(ho:s.heap.get? D=some {cls:=.type "list",data:=.seq vs n})(h0:0<=k)(hfit:k < 2 ^ 63)(hn:k < vs.size)
  (hQ:∀h',h'.get? D=some {cls:=.type "list",data:=.seq (vs.setIfInBounds k.toNat v) n}->Heap.SameBut D s.heap h'->Q () {s with heap:=h'}):wpAny M A (setItem (.ref D) (.int k t) v) Q E s:=by
 have hL:s.heap.IsList D vs:=⟨_,ho,rfl,n,rfl⟩
 delta setItem
 try with_reducible refine QE ?_
 refine QC (wpAny_sequenceKey hL.typeIs (by decide) ?_);refine QC (wpAny_callSpecial?_slot hL.typeIs slot_list_setitem (wpAny_call_entry slot_list_setitem hL.typeIs entry_list_setitem ?_ (args_list_setitem _ _ _)));refine(?_ :wpAny _ _ (Builtin.List.listSubscript? (.int k t) >>= _) _ _ s);refine QC (wpAny_listSubscript_int (fitsIndex_of h0 hfit) ?_);clear hfit;refine xE (Int.eq_ofNat_of_zero_le h0) fun j ρ=>?_;subst ρ;have hj:j < vs.size:=by omega
 obtain hx:=Array.getElem?_eq_getElem hj;refine(?_ :wpAny _ _ ((seqItemAt D j >>= fun r=>pure (r.map (j, ·))) >>= _) _ _ s);refine QC (QC (wpAny_seqItemAt ho rfl (QD ?_)));refine J hx<|(?_ :wpAny _ _ (setSeqItemAt D j v >>= _) _ _ s);refine QC (wpAny_setSeqItemAt ho rfl ?_);obtain fin:(s.heap.update D (Obj.mapSeq (·.setIfInBounds j v))).get? D=some {cls:=.type "list",data:=.seq (vs.setIfInBounds j v) n}:=by refine aQ nh<|Heap.get?_update_self _ ho (by refine J nh ?_;rfl)
 exact QD ⟨.none,rfl,wpAny_pure (hQ _ fin (Heap.SameBut.update ..))⟩
theorem C4:∀{rs:List α} {j:Nat} {v:α},j < rs.length->(rs.set (rs.length - (j+1)) v).reverse=rs.reverse.set j v:=fun{rs j v} h=>by
 refine List.ext_getElem? fun i=>?_;by_cases c:i < rs.length
 ·(refine J (List.getElem?_reverse (J List.length_set<|c)) ?_;refine J (List.getElem?_set) ?_;refine J (List.getElem?_set) ?_;refine J List.length_set<|J QL<|J (List.getElem?_reverse c) ?_)
  by_cases q:j=i
  ·refine aQ q ?_;(exact J (QM (QF (ai 0x90432001400010810c70090010081801c00401850c0005 rfl (jw _ _) (jw _ _) (jI (ai 0x185001046043140040002 rfl h))) (ai 0x70432400010892050000420432001801c00401850c0005 rfl (jw _ _) (jI (ai 0x10c6007001007140041185080003 rfl h (jw _ _))) (jI (ai 0x146001045043040002 rfl h)))))<|J (QM rfl)<|J (QM (ai 0x1810c7005000042185040043 rfl (jI (ai 0x185001046043140040002 rfl h))))<|J (QM h) rfl)
  ·exact J (QN (by omega))<|J (QN q) rfl
 ·(refine J (List.getElem?_eq_none (by(refine J QL<|J List.length_set ?_);exact ai 0x5180044185040002 rfl c)) ?_;exact J (List.getElem?_eq_none (by(refine J List.length_set<|J QL ?_);exact ai 0x5180044185040002 rfl c)) rfl)
theorem uI(j:Int)(t:Tok):kO.is j (.int j t)=true:=beq_self_eq_true j
theorem A0(j:Nat)(t:Tok):litKind.is j (.str (am j) t)=true:=beq_self_eq_true (am j)
theorem Mg(e:eP σ.H d i v=some H')(rd:VR σ.g d u)(ri:VR σ.g i iv)(rv:VR σ.g v val)(hQ:Cq σ H' Q):wpAny M A (setItem u iv val) Q E σ.s:=by
 refine Or.elim (gL e) (fun ρ=>?_) fun e=>?_
 ·obtain⟨k,rs,c,rfl,e1,e⟩:=ρ;refine xA (aW e) fun lc e=>an (ah e) fun j e2 e=>bI (σ.list e1 rd) fun D vs n ρ3 hm hw ρ6 ho a=>J ρ3 ?_;subst ρ6;rw [cM e2] at ri;refine xE (cH ri) fun t ρ=>?_;subst ρ
  cases j with
  |negSucc j=>exact nn e
  |ofNat j=>
   refine xA (aW e) fun e3 e=>?_;obtain rfl:=sj e;obtain lj:=QG e3;have lc:=QG lc;have l2:=a.length;rw [List.length_reverse] at l2;replace l2:vs.size=rs.length:=by(exact aQ l2<|J QX rfl)
   refine tR ho (Int.natCast_nonneg j) (show(j:Int) < 2 ^ 63 by omega) (show(j:Int) < vs.size by omega) fun h' hc hs=>hQ.go (VS.chg σ.s.toks hm hw hs hc ⟨rfl,?_,_,n,hc,?_⟩)
   ·exact J (qn _ _ _)<|J List.length_set rfl
   ·(refine J (qn _ _ _)<|J (show Nat.sub rs.length (Nat.succ j)=rs.length - (j+1) from rfl)<|J (C4 lj)<|J Array.toList_setIfInBounds ?_);exact a.set j rv
 ·refine Or.elim (ff e) (fun ρ=>?_) fun e=>?_
  ·obtain⟨k,es,ep,rfl,e1,e⟩:=ρ;refine an (ah e) fun j e2 e=>xA (aW e) fun e3 e=>?_;obtain rfl:=sj e;refine bf (σ.dI e1 rd) fun D bn ρ hm hw nd ho a=>J ρ ?_;rw [cM e2] at ri;refine xE (cH ri) fun t ρ=>?_;subst ρ;exact zz d7 ho a (uI j t) e3 rv fun h' tk bL hs hc a'=>hQ.go (VS.chg tk hm hw hs hc ⟨rfl,EF nd,bL,hc,a'⟩)
  ·refine Or.elim (uQ e) (fun ρ=>?_) fun e=>?_
   ·obtain⟨k,es,ep,rfl,e1,e⟩:=ρ;refine an (ah e) fun j e2 e=>xA (aW e) fun e3 e=>?_;obtain rfl:=sj e;refine gY (σ.dL e1 rd) fun D bn ρ hm hw ho a=>J ρ ?_;rw [iy e2] at ri;refine xE (dh ri) fun t ρ=>?_;subst ρ;exact zz natE ho a (A0 j t) e3 rv fun h' tk bL hs hc a'=>hQ.go (VS.chg tk hm hw hs hc ⟨rfl,bL,hc,a'⟩)
   ·exact nn e
end
section
variable{b c:Bool}{A:Around}{σ:VS}
def I3(g:Gh)(e:Int×V)(p:Int×Value):Prop:=e.1=p.1/\VR g e.2 p.2
theorem Fw(a:aT (ER kO g) es l):∃kvs,Pairs kO l kvs/\aT (I3 g) es kvs/\kvs.map (·.1)=es.map (·.1):=by
 induction a with
 |nil=>exact⟨[],.nil,.nil,rfl⟩
 | @cons e d es l r t ih=>exact bP ih fun kvs p c m=>⟨(e.1,d.val)::kvs,.cons r.key rfl p,.cons ⟨rfl,r.val⟩ c,congrArg (e.1:: ·) m⟩
theorem fG(ho:h.get? D=some {cls:=.type "dict",data:=.dict bn ep})(nd:(es.map (·.1)).Nodup)(a:aT (ER kO g) es bn.toList):∃kvs,Heap.DictAt kO h D kvs ep/\h.DictOf kO D kvs/\aT (I3 g) es kvs:=by refine bP (Fw a) fun kvs p c m=>?_;have ks:=fun e he=>mY a e (Array.mem_toList_iff.mpr he);exact⟨kvs,⟨_,bn,ho,⟨rfl,rfl,rfl⟩,rfl,ks,p,J m<|nd⟩,⟨_,bn,ep,ho,⟨rfl,rfl,rfl⟩,rfl,ks,p,J m<|nd⟩,c⟩
theorem sZ(a:aT (I3 g) es kvs)(k:Int):(aL iE es k=none->valueAt kvs k=none)/\∀v,aL iE es k=some v->∃val,valueAt kvs k=some val/\VR g v val:=by
 induction a with
 |nil=>exact⟨fun Y=>rfl,fun v e=>nn e⟩
 | @cons e p es kvs r t ih=>
  obtain⟨i,x⟩:=e;obtain⟨j,y⟩:=p;refine xA r fun ρ r=>?_;subst ρ
  obtain vc:valueAt ((i,y)::kvs) k=if i=k then some y else valueAt kvs k:=by
   delta valueAt;refine J (List.find?_cons) ?_;by_cases c:i=k
   ·simp[c]
   ·simp[c]
  refine J vc ?_;by_cases c:i=k
  ·(refine J (s0 d7 c _ _)<|J (QM c) ?_);exact⟨fun e=>nn e.symm,fun v e=>⟨y,rfl,bt e<|r⟩⟩
  ·(refine J (lW d7 c _ _)<|J (QN c) ?_);exact ih
theorem C9(hu:A.units < cLine)(fb:aT (I3 σ.g) fs kb)(a:aT (I3 σ.g) es ka):∀{b:Bool},IZ fs es=some b->KeqHits A σ.s kb ka b:=by
 induction a with
 |nil=>intro b e;exact bt e<| .nil
 | @cons q p es ka r t ih=>
  intro b e;obtain⟨i,x⟩:=q;obtain⟨j,y⟩:=p;refine xA r fun ρ r=>?_;subst ρ;refine Or.elim (bY e) (fun ρ=>?_) fun ρ=>?_
  ·exact an ρ fun u e1 e=>an (ah e) fun c e2 e=>an (ah e) fun d e3 e=>bt e<|an ((sZ fb i).2 u e1) fun val hv rv=>.hit hv (mv hu e2 r rv).2.2 (ih e3)
  ·exact xA ρ fun e1 e=>bt e<| .miss ((sZ fb i).1 e1)
theorem yr(G:Gl){P:Value->Value->Bool->Prop}(hu:A.units+1 < cLine)(e:EB σ.H x y=some b)(rv:VR σ.g x u)(ru:VR σ.g y z)
  (k1:∀D D' vs us n m (g:Nat->Bool),σ.s.heap.get? D=some {cls:=.type "list",data:=.seq vs n}->σ.s.heap.get? D'=some {cls:=.type "list",data:=.seq us m}->vs.size=us.size->(∀j (h1:j < vs.size) (h2:j < us.size),EqAt A.in1 σ.s vs[j] us[j] (g j))->P (.ref D) (.ref D') ((List.range vs.size).all g))
  (k2:∀D D' vs us n m,σ.s.heap.get? D=some {cls:=.type "list",data:=.seq vs n}->σ.s.heap.get? D'=some {cls:=.type "list",data:=.seq us m}->vs.size≠us.size->P (.ref D) (.ref D') false)
  (k3:∀D D' ka kb c,(D == sysModules)=false->(D' == sysModules)=false->σ.s.heap.DictOf kO D ka->σ.s.heap.DictOf kO D' kb->(ka.length=kb.length->KeqHits A.in1 σ.s kb ka c)->P (.ref D) (.ref D') (ka.length == kb.length && c))
  (k4:lR x y=some b->P u z b):P u z b:=by
 have sz:∀{xs:List V} {vs:Array Value},c6 σ.g xs vs.toList->vs.size=aq xs:=fun a=>by(exact J (aw _)<|aQ a.length<|J QX rfl)
 refine Or.elim (bY e) (fun ρ=>?_) fun ρ=>?_
 ·refine an ρ fun xs e1 e=>an (ah e) fun ys e2 e=>aI (VS.lst e1 rv) fun D vs n ρ g1 a1=>J ρ<|aI (VS.lst e2 ru) fun D' us m ρ g2 a2=>?_;subst ρ
  (obtain e:=(sz a1)▸e;obtain e:=(sz a2)▸e;obtain e:=(natE _ _)▸e)
  by_cases hl:vs.size=us.size
  ·obtain e:=(QO hl)▸e;refine an (Bm (fun Y Y Y Y Y e r q=>(mv (A:=A.in1) hu e r q).2.2) a1 e a2) fun k h1 h2=>?_
   (obtain h1:=QX▸h1;rw [Array.length_toList,<-hl,Nat.min_self,beq_self_eq_true,Bool.and_true] at h1)
   exact J h1<|k1 D D' vs us n m k g1 g2 hl fun j j1 j2=>(h2 j _ _ (mi j1) (mi j2)).elim fun Y t=>t.elim fun Y t=>t
  ·obtain e:=(QP hl)▸e;exact bt e<|k2 D D' vs us n m g1 g2 hl
 ·obtain⟨_,e⟩:=ρ;refine Or.elim (ff e) (fun ρ=>?_) fun e=>?_
  ·obtain⟨i,es,ep,rfl,e1,e⟩:=ρ;refine Or.elim (ff e) (fun ρ=>?_) fun e=>?_
   ·obtain⟨j,fs,eq,rfl,e2,e⟩:=ρ;refine bf (σ.dI e1 rv) fun D bn ρ Y w1 n1 g1 a1=>J ρ<|bf (σ.dI e2 ru) fun D' dfs ρ Y w2 n2 g2 a2=>?_;subst ρ;refine bP (fG g1 n1 a1) fun ka Y d1 b1=>bP (fG g2 n2 a2) fun kb Y d2 b2=>?_
    (obtain e:=(aw _)▸e;obtain e:=(aw _)▸e;obtain e:=b1.length▸e;obtain e:=b2.length▸e;obtain e:=(natE _ _)▸e)
    by_cases hl:ka.length=kb.length
    ·obtain e:=(QO hl)▸e;have:=k3 D D' ka kb b (dP G w1) (dP G w2) d1 d2 fun Y=>C9 hu b2 b1 e;rwa [show(ka.length == kb.length)=true from beq_iff_eq.mpr hl,Bool.true_and] at this
    ·obtain e:=(QP hl)▸e;refine bt e ?_;obtain this:=k3 D D' ka kb false (dP G w1) (dP G w2) d1 d2 fun c=>absurd c hl;rwa [Bool.and_false] at this
   ·exact nn e
  ·exact k4 e
theorem N1(G:Gl)(hu:A.units+1 < cLine)(e:EB σ.H x y=some b)(rv:VR σ.g x u)(ru:VR σ.g y z):Q (.bool b) σ.s->wpAny M A (compareOp .Eq u z) Q E σ.s:=
 yr (P:=fun u z b=>Q (.bool b) σ.s->wpAny M A (compareOp .Eq u z) Q E σ.s) G hu e rv ru (fun D D' vs us n m g g1 g2 z1 z3 hQ=>eq_listAt (aU g1) (aU g2) z1 (Nat.lt_of_succ_lt hu) z3 hQ)
  (fun D D' vs us n m g1 g2 z hQ=>eq_list_lengthsAt (aU g1) (aU g2) (bne_iff_ne.mpr z) (Nat.lt_of_succ_lt hu) hQ) (fun D D' ka kb c n1 n2 d1 d2 k hQ=>keq_eq n1 n2 d1 d2 (Nat.lt_of_succ_lt hu) k hQ) fun e=>(mv (Nat.lt_of_succ_lt hu) e rv ru).2.1 prog w E Q
theorem Nd(G:Gl)(hu:A.units+1 < cLine)(n1:iJ x=none)(e:EB σ.H x y=some b)(rv:VR σ.g x u)(ru:VR σ.g y z):Q (.bool !b) σ.s->wpAny M A (compareOp .NotEq u z) Q E σ.s:=
 yr (P:=fun u z b=>Q (.bool !b) σ.s->wpAny M A (compareOp .NotEq u z) Q E σ.s) G hu e rv ru (fun D D' vs us n m g g1 g2 z1 z3 hQ=>RcNeAt.lists (aU g1) (aU g2) z1 (Nat.lt_of_succ_lt hu) z3 prog w E Q hQ)
  (fun D D' vs us n m g1 g2 z hQ=>RcNeAt.lists_lengths (aU g1) (aU g2) (bne_iff_ne.mpr z) (Nat.lt_of_succ_lt hu) prog w E Q hQ) (fun D D' ka kb c n1 n2 d1 d2 k hQ=>keq_ne n1 n2 d1 d2 (Nat.lt_of_succ_lt hu) k hQ)
  fun e=>by
   refine Or.elim (EN e) (fun ρ=>?_) fun e=>?_
   ·refine dy ρ fun xs ys ρ2 Y=>?_;subst ρ2;exact nn n1.symm
   ·exact(mF e rv ru).2.2.1 prog w E Q
theorem Ad(hu:A.units < cLine)(a:c6 σ.g ys us)(rx:VR σ.g x xv):∀{b:Bool},nq x ys=some b->b=us.any (fun u=>Ce σ.s.heap u xv)/\∀u∈us,EqAt A σ.s u xv (Ce σ.s.heap u xv):=by
 induction a with
 |nil=>intro b e;exact bt e<|⟨rfl,fun u m=>nomatch m⟩
 | @cons y u ys us r t ih=>
  intro b e;refine an (ah e) fun c e1 e=>an (ah e) fun d e2 e=>bt e<|xA (ih e2) fun h1 h2=>fp (mv hu e1 r rx) fun z1 Y z3=>⟨by(exact J List.any_cons<|aQ z1<|aQ h1 rfl),fun v m=>?_⟩
  refine pQ m ?_ fun m=>?_
  ·exact aQ z1<|z3
  ·exact h2 v m
theorem qe(e:jR σ.H y=some ys)(r:VR σ.g y u):∃a vs n,u=.ref a/\c6 σ.g ys vs.toList/\(σ.s.heap.get? a=some {cls:=.type "tuple",data:=.seq vs n}/\y=.tup ys\/σ.s.heap.get? a=some {cls:=.type "list",data:=.seq vs n}):=by
 refine Or.elim (Av e) (fun ρ=>?_) fun e=>?_
 ·subst ρ;exact aI (VS.tup r) fun a vs n h1 h2 h3=>⟨a,vs,n,h1,h3,.inl ⟨h2,rfl⟩⟩
 ·exact aI (VS.lst e r) fun a vs n h1 h2 h3=>⟨a,vs,n,h1,h3,.inr h2⟩
theorem Lz(G:Gl)(hu:A.units+1 < cLine)(e:isIn σ.H x y=some b)(rx:VR σ.g x xv)(ru:VR σ.g y u):((∀tk,Q (.bool b) {σ.s with toks:=tk})->wpAny M A (compareOp .In xv u) Q E σ.s)/\((∀tk,Q (.bool !b) {σ.s with toks:=tk})->wpAny M A (compareOp .NotIn xv u) Q E σ.s):=by
 refine Or.elim (bY e) (fun ρ=>?_) fun ρ=>?_
 ·refine an ρ fun ys e1 e=>aI (qe e1 ru) fun a vs n ρ rs ho=>J ρ<|xA (Ad (A:=A.in1) hu rs rx e) fun z1 z2=>?_;rw [Array.any_toList] at z1;have z3:∀u,u∈vs->EqAt A.in1 σ.s u xv (Ce σ.s.heap u xv):=fun u m=>z2 u (Array.mem_toList_iff.mpr m);refine Or.elim ho (fun ρ=>?_) fun ho=>?_
  ·exact xA ρ fun ho Y=>⟨fun hQ=>in_tupleAt _ (cG ho) z3 (z1▸hQ _),fun hQ=>notIn_tupleAt _ (cG ho) z3 (z1▸hQ _)⟩
  ·exact⟨fun hQ=>in_listAt _ (aU ho) z3 (z1▸hQ _),fun hQ=>notIn_listAt _ (aU ho) z3 (z1▸hQ _)⟩
 ·exact xA ρ fun Y e=>an (ah e) fun o e1 e=>bt e<|Jq G e1 ru rx
end
section
variable{σ:VS}
theorem qO(e:n6 x y f=some r)(rx:VR g x u)(ry:VR g y z):∃i j t t',u=.int i t/\z=.int j t'/\f i j=some r:=by refine an (ah e) fun i e1 e=>an (ah e) fun j e2 e=>?_;rw [cM e1] at rx;rw [cM e2] at ry;exact xE (cH rx) fun t rx=>xE (cH ry) fun t' ry=>⟨i,j,t,t',rx,ry,e⟩
theorem fN(e:lh v=some c)(r:VR g v u):(u == Value.none)=c/\(c=true->u=.none):=by cases v<;>first|exact nn e|(refine bt e ?_;cases r;exact⟨rfl,fun q=>by first|rfl|exact d_ q⟩)
theorem EV(G:Gl)(hu:A.units+1 < cLine)(e:ba σ.H op x y=some b)(rx:VR σ.g x u)(ry:VR σ.g y z)(hQ:∀tk,Q (.bool b) {σ.s with toks:=tk}):wpAny M A (compareOp op u z) Q E σ.s:=by
 have dn:Q (.bool b) σ.s:=hQ σ.s.toks;have lt:∀{f:Int->Int->Bool},Lh x y f=some b->(∀i j t t',Q (.bool (f i j)) σ.s->wpAny M A (compareOp op (.int i t) (.int j t')) Q E σ.s)->wpAny M A (compareOp op u z) Q E σ.s:=fun e k=>by refine eO (qO e rx ry) fun i j t t' ρ4 ρ5 e=>J ρ4 ?_;subst ρ5;obtain rfl:=sj e;exact k i j t t' dn
 cases op with
 |Eq=>exact N1 G hu e rx ry dn
 |NotEq=>
  refine xA (aW e) fun e0 e=>an (ah e) fun c e1 ec=>?_;obtain rfl:=sj ec;refine Nd G hu ?_ e1 rx ry dn;have:=(aX e0).1;refine iS (iJ x) (fun q=>?_) fun Y q=>?_
  ·rfl
  ·obtain this:=q▸this;exact d_ this
 |Lt=>exact lt e fun i j t u=>PyProof.Rows.lt_int
 |LtE=>exact lt e fun i j t u=>PyProof.Rows.le_int
 |Gt=>exact lt e fun i j t u=>PyProof.Rows.gt_int
 |GtE=>exact lt e fun i j t u=>PyProof.Rows.ge_int
 |Is=>refine an (ah e) fun c e1 e=>xA (aW e) fun ρ e=>?_;subst ρ;exact J ((fN e1 ry).2 rfl)<|PyProof.Rows.is_none_gen (J ((fN e rx).1)<|dn)
 |IsNot=>refine an (ah e) fun c e1 e=>xA (aW e) fun ρ e=>?_;subst ρ;refine an (ah e) fun d e2 e=>?_;obtain rfl:=sj e;exact J ((fN e1 ry).2 rfl)<|PySem.isNot_none (J ((fN e2 rx).1)<|dn)
 |In=>exact(Lz G hu e rx ry).1 hQ
 |NotIn=>refine an (ah e) fun c e1 ec=>?_;obtain rfl:=sj ec;exact(Lz G hu e1 rx ry).2 hQ
theorem fX{vs:Array Value}(a:c6 g xs vs.toList):vs.size=xs.length:=by(exact aQ a.length<|J QX rfl)
theorem pE{Q:Bool->Shared->Prop}(e:gU σ.H x=some b)(rx:VR σ.g x u)(hQ:∀tk,Q b {σ.s with toks:=tk}):wpAny M A (truthy u) Q E σ.s:=by
 have list:∀{D:Addr} {vs:Array Value} {n l:Nat},σ.s.heap.get? D=some {cls:=.type "list",data:=.seq vs n}->vs.size=l->Nat.ble l 65536=true->not (Nat.beq l 0)=b->wpAny M A (truthy (.ref D)) Q E σ.s:=fun{D vs n l} g1 hl h1 h2=>by refine wpAny_truthy_list (aU g1) (by have:=QG h1;lia)<|J (show(!vs.isEmpty)=b by(refine aQ h2<|aQ hl<|J (natE _ _) ?_);rfl) ?_;exact hQ _
 refine Or.elim (bY e) (fun ρ=>?_) fun ρ=>?_
 ·obtain⟨c,e1,e⟩:=ρ;obtain rfl:=sj e;obtain rx:=(vx e1)▸rx;exact aQ (Eq.symm (qc rx))<|wpAny_truthy_bool (hQ σ.s.toks)
 ·obtain⟨_,e⟩:=ρ;refine Or.elim (gL e) (fun ρ=>?_) fun e=>?_
  ·obtain⟨k,rs,c,rfl,e1,e⟩:=ρ;exact xA (aW e) fun h1 e=>bI (σ.list e1 rx) fun D vs n ρ Y Y h2 g1 a1=>J ρ<|list g1 (by(exact J (fX a1)<|J QL<|J h2 rfl)) h1 (Option.some.inj e)
  ·refine Or.elim (bY e) (fun ρ=>?_) fun ρ=>?_
   ·exact an ρ fun xs e1 e=>xA (aW e) fun h1 e=>aI (VS.lst e1 rx) fun D vs n ρ g1 a1=>J ρ<|list g1 (by(exact J (fX a1)<|J (aw _) rfl)) h1 (Option.some.inj e)
   ·obtain⟨_,e⟩:=ρ;refine an (ah e) fun c e1 e=>xA (aW e) fun ρ e=>?_;subst ρ;obtain rfl:=sj e;exact J ((fN e1 rx).2 rfl)<|PyProof.Rows.truthy_none (hQ σ.s.toks)
theorem CC{rs:List α}{n:Nat}(h:n < rs.length):rs[rs.length - (n+1)]? =rs.reverse[n]? :=by refine J (List.getElem?_reverse h) ?_;congr 1;exact QF (ai 0x90432001400010810c70090010081801c00401850c0005 rfl (jw _ _) (jw _ _) (jI (ai 0x185001046043140040002 rfl h))) (ai 0x70432400010892050000420432001801c00401850c0005 rfl (jw _ _) (jI (ai 0x10c6007001007140041185080003 rfl h (jw _ _))) (jI (ai 0x146001045043040002 rfl h)))
theorem Au(e:I_ n i=some j):j < n/\(0<=i/\j=i.toNat\/i < 0/\ -i<=n/\j=(i+n).toNat):=by
 cases i with
 |ofNat i=>refine xA (aW e) fun h1 e=>?_;exact bt e<|⟨QG h1,.inl ⟨Int.natCast_nonneg _,rfl⟩⟩
 |negSucc i=>refine xA (aW e) fun h1 e=>?_;obtain h1:=QG h1;refine bt e<|⟨Nat.sub_lt (ai 0x5182001005003040042 rfl h1) (Nat.succ_pos _),.inr ⟨by lia,by lia,by refine(?_ :n - (i+1)=_);lia⟩⟩
theorem vp(g1:σ.s.heap.get? D=some {cls:=.type "list",data:=.seq vs n})(e:I_ vs.size i=some j)(hl:vs.size<=65536)(ev:vs.toList[j]? =some val)(hQ:Q val σ.s):wpAny M A (getItem (.ref D) (.int i t)) Q E σ.s:=by
 rw [Array.getElem?_toList] at ev;refine xA (Au e) fun h0 ρ=>?_;obtain⟨h1,h2⟩|⟨h1,h2,h3⟩:=ρ
 ·exact wpAny_getItem_list (aU g1) h1 (by lia) (h2▸ev) hQ
 ·exact wpAny_getItem_list_neg (aU g1) h1 (by lia) (by lia) (aQ h3<|ev) hQ
theorem Hb{t:Tok}{val:Value}(g1:σ.s.heap.get? D=some {cls:=.type "tuple",data:=.seq vs n})(e:I_ vs.size i=some j)(hl:vs.size<=65536)(ev:vs.toList[j]? =some val)(hQ:Q val σ.s):wpAny M A (getItem (.ref D) (.int i t)) Q E σ.s:=by
 rw [Array.getElem?_toList] at ev;refine xA (Au e) fun h0 sp=>getItem_tuple (cG g1) (by lia) (by lia) ?_ ev hQ;delta seqIndex?;refine Or.elim sp (fun ρ=>?_) fun ρ=>?_
 ·obtain⟨h1,h2⟩:=ρ;simp only[show¬i < 0 by lia,if_false];simp[h1,show i < (vs.size:Int) by lia,h2]
 ·obtain⟨h1,h2,h3⟩:=ρ;simp only[h1,if_true];simp[show 0<=i+(vs.size:Int) by lia,show i+(vs.size:Int) < vs.size by lia,h3]
def EI(s:Shared)(u:Value):Prop:=∃D,u=.ref D/\(s.TypeIs u "list"\/s.TypeIs u "dict"\/s.TypeIs u "tuple")
theorem K8(G:Gl)(e:aR σ.H x y=some v)(rx:VR σ.g x u)(ri:VR σ.g y iv)(hQ:∀val tk,VR σ.g v val->Q val {σ.s with toks:=tk}):EI σ.s u/\wpAny M A (getItem u iv) Q E σ.s:=by
 refine Or.elim (gL e) (fun ρ=>?_) fun e=>?_
 ·obtain⟨k,rs,c,rfl,e1,e⟩:=ρ;refine xA (aW e) fun h1 e=>an (ah e) fun i e2 e=>an (ah e) fun j e3 e=>bI (σ.list e1 rx) fun D vs n ρ3 Y Y ρ6 g1 a1=>J ρ3 ?_;subst ρ6;have sz:vs.size=rs.length:=by(exact J (fX a1)<|J QL rfl)
  obtain lj:=(Au e3).1;rw [hV,show Nat.sub rs.length (Nat.succ j)=rs.length - (j+1) from rfl,CC lj] at e;refine an (a1.get e) fun val ev q=>?_;rw [cM e2] at ri;refine xE (cH ri) fun t ρ=>?_;subst ρ;exact⟨⟨D,rfl,.inl ⟨_,g1,rfl⟩⟩,vp g1 (sz▸e3) (by obtain this:=QG h1;exact ai 0x400004180040185001080010000105080002 rfl sz this) ev (hQ val σ.s.toks q)⟩
 ·refine Or.elim (bY e) (fun ρ=>?_) fun ρ=>?_
  ·refine an ρ fun xs e1 e=>xA (aW e) fun h1 e=>an (ah e) fun i e2 e=>an (ah e) fun j e3 e=>aI (qe e1 rx) fun D vs n ρ a1 ho=>J ρ ?_;have sz:vs.size=aq xs:=by(exact J (fX a1)<|J (aw _) rfl)
   rw [hV] at e;refine an (a1.get e) fun val ev q=>?_;rw [cM e2] at ri;refine xE (cH ri) fun t ρ=>?_;subst ρ;have hl:vs.size<=65536:=J sz<|QG h1;refine Or.elim ho (fun ρ=>?_) fun g1=>?_
   ·exact xA ρ fun g1 Y=>⟨⟨D,rfl,.inr (.inr ⟨_,g1,rfl⟩)⟩,Hb g1 (sz▸e3) hl ev (hQ val σ.s.toks q)⟩
   ·exact⟨⟨D,rfl,.inl ⟨_,g1,rfl⟩⟩,vp g1 (sz▸e3) hl ev (hQ val σ.s.toks q)⟩
  ·refine xA ρ fun Y e=>an (ah e) fun o e1 e=>?_;obtain e1:=e1.trans (congrArg some e);exact xA (ID G e1 rx ri hQ) fun h1 h2=>⟨h1.imp fun Y q=>⟨q.1,.inr (.inl q.2)⟩,h2⟩
end
section
variable{E:Value->Shared->Prop}
def bM(σ:VS)(H':Hp)(v:V)(Q:Value->Shared->Prop):Prop:=∀τ val,Le dH σ τ->τ.H=H'->VR τ.g v val->Q val τ.s
theorem Fin.toV(hQ:Fin σ k r Q)(e:k v H'=some r):bM σ H' v Q:=fun τ val l eh rv=>hQ τ v val l rv (eh▸e)
theorem bM.at(hQ:bM σ σ.H v Q)(rv:VR σ.g v val)(tk:Tok):Q val {σ.s with toks:=tk}:=hQ (σ.tk tk) val σ.tk_le rfl rv
theorem bM.jk(hQ:bM σ σ.H v Q)(gr:Grows σ.s.heap h')(rv:VR σ.g v val)(tk:Tok):Q val {σ.s with heap:=h',toks:=tk}:=hQ (σ.jk gr tk) val (σ.jk_le gr tk) rfl rv
theorem bM.psh{H':Hp}(hQ:bM σ σ.H v Q)(o:Obj)(nf:o.isFreed=false)(tk:Tok)(rv:∀g',σ.g.le g'->g'.w σ.s.heap.objs.size=.g o->VR g' v val):Q val {σ.s with heap:=σ.s.heap.push o,toks:=tk}:=
 hQ (σ.psh o (.g o) tk (.g o (Heap.get?_push_size _ nf))) val σ.psh_le rfl (rv _ (σ.psh_le (P:=dH)).g (cQ _ _ _))
theorem bM.tup{xs:List V}{vs:Array Value}(hQ:bM σ σ.H (.tup xs) Q)(a:c6 σ.g xs vs.toList)(tk:Tok):Q (.ref σ.s.heap.objs.size) {σ.s with heap:=σ.s.heap.push {cls:=.type "tuple",data:=.seq vs},toks:=tk}:=
 hQ.psh (H':=σ.H) _ rfl tk fun g' l e=>uL e (a.up l)
theorem bM.fl{xs:List V}{vs:Array Value}(hQ:bM σ σ.H (.fl xs) Q)(a:c6 σ.g xs vs.toList)(tk:Tok):Q (.ref σ.s.heap.objs.size) {σ.s with heap:=σ.s.heap.push {cls:=.type "list",data:=.seq vs},toks:=tk}:=
 hQ.psh (H':=σ.H) _ rfl tk fun g' l e=>lr e (a.up l)
theorem bM.new(hQ:bM σ (σ.H.new o) (.ref σ.H.next) Q)(ob:Obj)(nf:ob.isFreed=false)(tk:Tok)(q:∀g' h',σ.g.le g'->h'.get? σ.s.heap.objs.size=some ob->OR g' h' σ.s.heap.objs.size σ.s.heap.objs.size o):Q (.ref σ.s.heap.objs.size) {σ.s with heap:=σ.s.heap.push ob,toks:=tk}:=by
 have op:pX σ.g σ.s.heap.objs.size:=⟨.inl (σ.r.live _ (bu _))⟩
 have e:=Heap.get?_push_size σ.s.heap nf;have nf':∀o,σ.g.w σ.s.heap.objs.size≠ .f o:=fun o q=>by rw [σ.r.live _ (bu _)] at q;exact Ow.noConfusion q
 have ne:(σ.s.heap.push ob).get? σ.s.heap.objs.size≠none:=by exact J e<|fun q=>nn q.symm
 exact hQ (σ.mk1 σ.s.heap.objs.size σ.s.heap.objs.size o tk op op (fun c Y Y n=>σ.r.same (fP _ _) c n) ne ne (q _ _ (iw (.inl (σ.r.new _ (QR _))) op.ng op.ng) e)) _ (σ.mk1_le (.inl nf') (.inl nf')) rfl (.ref _ _ _ (m9 _ _ _))
theorem tI(a:c6 σ.g xs vals)(hl:Nat.ble vals.length 100=true)(hQ:bM σ σ.H (.tup xs) Q):wpAny M' A (newTuple vals) Q E σ.s:=
 wpAny_newObj_type (hQ.tup (vs:=vals.toArray) a σ.s.toks) (by refine(?_ :vals.toArray.size<=sizeLine);exact J List.size_toArray<|dc (by obtain this:=QG hl;exact ai 0x64105001000010000105040001 rfl this))
theorem xq(a:c6 σ.g xs vals)(hl:Nat.ble vals.length 100=true):
  (bM σ σ.H (.fl xs) Q->wpAny M' A (newList vals) Q E σ.s)/\(bM σ (σ.H.new (.list (bC xs) (aq xs))) (.ref σ.H.next) Q->wpAny M' A (newList vals) Q E σ.s):=by
 have sz:sizeOk (.seq vals.toArray):=by refine(?_ :vals.toArray.size<=sizeLine);exact J List.size_toArray<|dc (by obtain this:=QG hl;exact ai 0x64105001000010000105040001 rfl this)
 exact⟨fun hQ=>wpAny_newObj_type (hQ.fl (vs:=vals.toArray) a σ.s.toks) sz,
  fun hQ=>wpAny_newObj_type (hQ.new _ rfl σ.s.toks fun g' h' l e=>⟨rfl,by(exact J (bq _)<|J (aw _)<|J QL rfl),_,_,e,by(refine J (bq _)<|J (List.reverse_reverse _) ?_);exact a.up l⟩) sz⟩
theorem Bb(h:a.natAbs < 2 ^ 64):Builtin.Int.intBits a<=64:=by
 delta Builtin.Int.intBits;split
 ·exact by decide
 ·rename_i hz;exact(Nat.log2_lt (by simpa using hz)).mpr h
theorem qU(e:Cp v=some m)(r:VR g v u):∃s t,u=.str s t/\s.length<=m:=by
 cases v<;>first|exact nn e|skip
 ·exact xA (aW e) fun h1 e=>bt e<|xE (dh r) fun t ρ=>J ρ<|⟨_,t,rfl,mX h1⟩
 ·refine bt e ?_;cases r with|msg _ s t a _=>exact⟨s,t,rfl,a⟩
theorem L7(e:cm σ.H x y=some v)(rx:VR σ.g x u)(ry:VR σ.g y z)(hQ:bM σ σ.H v Q):wpAny M A (binaryOp .Add u z) Q E σ.s:=by
 refine Or.elim (bY e) (fun ρ=>?_) fun ρ=>?_
 ·obtain⟨i,e1,e⟩:=ρ;refine an (ah e) fun j e2 e=>?_;obtain rfl:=sj e;rw [cM e1] at rx;refine xE (cH rx) fun t ρ=>J ρ ?_;rw [cM e2] at ry;refine xE (cH ry) fun t' ρ=>?_;subst ρ;exact add_int (hQ.at (.int _ _) _)
 ·obtain⟨_,e⟩:=ρ;refine Or.elim (bY e) (fun ρ=>?_) fun ρ=>?_
  ·obtain⟨m,e1,e⟩:=ρ;refine an (ah e) fun n e2 e=>xA (aW e) fun hl e=>?_;obtain rfl:=sj e;have hl:=QG hl;refine dy (qU e1 rx) fun a t ρ l1=>J ρ<|dy (qU e2 ry) fun b t' ρ l2=>?_;subst ρ;exact add_str (hsz:=dc (by exact ai 0x81800401c500100000ea601081c00010000100001061400c0004 rfl hl l1 l2)) fun t' tk=>hQ.at (.msg _ _ _ (by exact J (Str.length_append _ _)<|Nat.add_le_add l1 l2) (dc (show m+n<=65536 by exact ai 0xea60106140001000010000106140040002 rfl hl))) _
  ·obtain⟨_,e⟩:=ρ;refine an (ah e) fun xs e1 e=>an (ah e) fun ys e2 e=>xA (aW e) fun hl e=>?_;obtain rfl:=sj e;obtain hl:=QG hl;refine aI (VS.lst e1 rx) fun D vs n ρ g1 a1=>J ρ<|aI (VS.lst e2 ry) fun D' us m ρ g2 a2=>?_;subst ρ;have s1:=fX a1;have s2:=fX a2;rw [<-aw] at s1 s2;exact P.add_list g1 g2 (hQ.fl (by(refine J (qi _ _)<|J Array.toList_append ?_);exact a1.app a2) _) (dc (ai 0x81800421c500108000ea601081c00010000100001061400c0004 rfl hl s1 s2))
theorem Kh(e:eC σ.H op x y=some v)(rx:VR σ.g x u)(ry:VR σ.g y z)(hQ:bM σ σ.H v Q):wpAny M A (binaryOp op u z) Q E σ.s:=by
 cases op<;>first|exact nn e|skip
 ·exact L7 e rx ry hQ
 all_goals refine eO (qO e rx ry) fun i j t t' ρ4 ρ5 e=>?_;refine J ρ4 ?_;subst ρ5
 ·obtain rfl:=sj e;exact PyProof.Rows.sub_int (hQ.at (.int _ _) _)
 ·refine xA (aW e) fun hc e=>?_;obtain rfl:=sj e;exact PyProof.Rows.mul_int (hm:=(of_decide_eq_true hc).elim (fun q=>.of_left (Bb q)) fun q=>.of_right (Bb q)) (hQ.at (.int _ _) _)
 ·refine xA (aW e) fun hc e=>?_;have hc:=of_decide_eq_true hc;obtain rfl:=sj e;exact PyProof.Rows.mod_int (by omega)<|J (Int.fmod_eq_emod_of_nonneg _ (by omega))<|hQ.at (.int _ _) _
 ·refine xA (aW e) fun hc e=>xA (of_decide_eq_true hc) fun ρ0 ρ1=>?_;subst ρ0;subst ρ1;obtain rfl:=sj e;exact AutoIntOps.pow_4 (by decide) (by decide) (by decide) (by decide) (by decide+kernel) (show(Made.int _).post Q σ.s from hQ.at (.int _ _) _)
 ·refine xA (aW e) fun hc e=>xA (of_decide_eq_true hc) fun h1 h2=>?_;obtain rfl:=sj e;exact PyProof.Rows.floordiv_int (by omega)<|J (Int.fdiv_eq_ediv_of_nonneg _ (by omega))<|hQ.at (.int _ _) _
end
section
variable{A:Around}{σ τ:VS}
theorem bM.from(hQ:bM σ H' v Q)(l:Le dH σ τ):bM τ H' v Q:=fun υ val l'=>hQ υ val (l.trans l')
theorem r5(b n:Nat)(hb:b<=n):Builtin.Slice.sliceAdjust none (some (b:Int)) 1 (n:Int)=((0:Int),(b:Int)):=by delta Builtin.Slice.sliceAdjust;simp only[show¬((1:Int) < 0) by decide,Int.not_lt.mpr (Int.natCast_nonneg b),if_false];congr 1;lia
theorem sy(b:Nat):Builtin.Slice.slicePlaces 0 (b:Int) 1=b:=by delta Builtin.Slice.slicePlaces;simp only[show(1:Int) > 0 by decide,if_true,Int.ediv_one];split<;>lia
theorem pD{b n:Nat}{u:Tok}{Q:Int×Int×Nat->Shared->Prop}(hs:s.heap.IsSliceOf sl .none (.int b u) .none)(hb:b<=n)(h:Q (0,1,b) s):
  wpAny M A (Builtin.Slice.sliceApplied (.ref sl) (pure (n:Int))) Q E s:=by
 refine bP (id hs) fun os hos hcs hds=>?_;delta Builtin.Slice.sliceApplied Builtin.Slice.sliceFields;refine QC (QC (wpAny_field hos hds (x:=.none) rfl (QC (wpAny_field hos hds (x:=.int b u) rfl (QC (wpAny_field hos hds (x:=.none) rfl (QD ?_)))))));refine QC (slicePart_none ?_);refine J (QN (by decide))<|QC (slicePart_none (QC (slicePart_int (QC (QD ?_)))));refine J (r5 b n hb)<|(?_ :wpAny _ _ (pure ((0:Int),(1:Int),Builtin.Slice.slicePlaces (0:Int) (b:Int) 1)) _ _ s);exact J (sy b)<|QD h
theorem w_(xs:Array Value)(b:Nat):((List.range b).filterMap fun(k:Nat)=>xs[((0:Int)+(k:Int)*1).toNat]?).toArray=(xs.toList.take b).toArray:=by
 obtain e:(fun(k:Nat)=>xs[((0:Int)+(k:Int)*1).toNat]?)=(fun x=>xs[x]?)∘fun x=>0+x:=funext fun k=>by refine J (show((0:Int)+(k:Int)*1).toNat=0+k by lia) ?_;rfl
 exact J e<|aQ List.filterMap_map<|J (PySem.pick_run xs 0 b)<|J List.drop_zero rfl
theorem qr{b:Nat}{u:Tok}{Q:Value->Shared->Prop}(ht:IsTup s.heap t items)(hs:s.heap.IsSliceOf sl .none (.int b u) .none)(hb:b < items.size)
  (h:Q (.ref s.heap.objs.size) {s with heap:=s.heap.push {cls:=.type "tuple",data:=.seq (items.toList.take b).toArray}})(hsz:items.size<=sizeLine):wpAny M A (getItem (.ref t) (.ref sl)) Q E s:=by
 have hok:sizeOk (.seq (items.toList.take b).toArray):=by refine(?_ :(items.toList.take b).toArray.size<=sizeLine);refine J List.size_toArray<|J List.length_take<|J QX ?_;exact QQ (Nat.min_le_right _ _) hsz
 refine bP (id hs) fun os hos hcs hds=>?_;obtain hTs:s.TypeIs (.ref sl) "slice":=⟨os,hos,hcs⟩
 delta getItem
 try with_reducible refine QE ?_
 first|refine QC (QD ?_)|skip
 refine QC (wpAny_sequenceKey ht.typeIs (by decide) ?_);refine QC (wpAny_callSpecial?_slot ht.typeIs slot_tuple_getitem (wpAny_call_entry slot_tuple_getitem ht.typeIs entry_tuple_getitem ?_ (args_tuple_getitem _ _)));refine(?_ :wpAny _ _ (Builtin.Tuple.tupleItemsOf (.ref t) >>= _) _ _ s);refine QC (tupleItemsOf_ ht ?_);refine QC (wpAny_typeOf hTs ?_);refine J (QM (by decide))<|QC (pD hs (Nat.le_of_lt hb) ?_);refine(?_ :wpAny _ _ (if((0:Int) == 0 && (1:Int) == 1 && b == items.size)=true then _ else _) _ _ s);(refine J (QN (by refine J (beq_eq_false_iff_ne.mpr (QY hb)) ?_;decide)) ?_;refine J (w_ items b) ?_)
 first
  |exact QC (wpAny_newObj_type (QD ⟨_,rfl,wpAny_pure h⟩) hok)
  |exact QC (wpAny_newObj_type (QC (QD (QD ⟨_,rfl,wpAny_pure h⟩))) hok)
  |exact QC (QC (wpAny_newObj_type (QD (QD ⟨_,rfl,wpAny_pure h⟩)) hok))
  |exact QC (QC (wpAny_newObj_type (QD ⟨_,rfl,wpAny_pure h⟩) hok))
noncomputable abbrev Ja(a b:Value):Obj:={cls:=.type "slice",data:=.fields #[a,b,.none]}
theorem L_(e:me x y=some v)(rx:VR σ.g x u)(ry:VR σ.g y z)(hQ:bM σ σ.H v Q)(tk:Tok):∃t,u=.ref t/\({σ.s with heap:=σ.s.heap.push (Ja z .none),toks:=tk}:Shared).TypeIs u "tuple"/\wpAny M A (getItem u (.ref σ.s.heap.objs.size)) Q E {σ.s with heap:=σ.s.heap.push (Ja z .none),toks:=tk}:=by
 refine an (ah e) fun xs e1 e=>an (ah e) fun j e2 e=>?_;rw [iH e1] at rx;rw [cM e2] at ry;refine xE (cH ry) fun t ρ=>J ρ ?_
 cases j with
 |negSucc j=>exact nn e
 |ofNat j=>
  refine xA (aW e) fun h1 e=>xA (aX h1) fun h1 h2=>xA (aX h2) fun h2 h3=>?_;obtain rfl:=sj e;refine aI (VS.tup rx) fun a vs n ρ ho rs=>?_;subst ρ;have g1:=fP σ.s.heap (Ja (.int (Int.ofNat j) t) .none);have sz:vs.size=aq xs:=by(exact J (fX rs)<|J (aw _) rfl)
  have h1:=QG h1;obtain h2:=QG h2;obtain h3:=QG h3;refine⟨a,rfl,⟨_,g1 _ _ ho,rfl⟩,getItem_tuple_from ⟨_,g1 _ _ ho,rfl,n,rfl⟩ (Heap.IsSliceOf.new ..) (ai 0x5043001005043040001 rfl h1) (ai 0x1c5001007180045185080003 rfl sz h2) ?_ (dc (ai 0x3a9804180040185001080010000105080002 rfl sz h3))⟩;exact(hQ.from (σ.jk_le g1 tk)).tup (J (wA _ _)<|rs.drop j) tk
theorem KW(e:x6 x y=some v)(rx:VR σ.g x u)(ry:VR σ.g y z)(hQ:bM σ σ.H v Q)(tk:Tok):∃t,u=.ref t/\({σ.s with heap:=σ.s.heap.push (Ja .none z),toks:=tk}:Shared).TypeIs u "tuple"/\wpAny M A (getItem u (.ref σ.s.heap.objs.size)) Q E {σ.s with heap:=σ.s.heap.push (Ja .none z),toks:=tk}:=by
 refine an (ah e) fun xs e1 e=>an (ah e) fun j e2 e=>?_;obtain rx:=(iH e1)▸rx;rw [cM e2] at ry;refine xE (cH ry) fun t ρ=>J ρ ?_
 cases j with
 |negSucc j=>exact nn e
 |ofNat j=>
  refine xA (aW e) fun h1 e=>xA (aX h1) fun h1 h2=>?_;obtain rfl:=sj e;refine aI (VS.tup rx) fun a vs n ρ ho rs=>?_;subst ρ;have g1:=fP σ.s.heap (Ja .none (.int (Int.ofNat j) t));have sz:vs.size=aq xs:=by(exact J (fX rs)<|J (aw _) rfl)
  obtain h1:=QG h1;obtain h2:=QG h2;refine⟨a,rfl,⟨_,g1 _ _ ho,rfl⟩,qr ⟨_,g1 _ _ ho,rfl,n,rfl⟩ (Heap.IsSliceOf.new ..) (ai 0x7142001007180045185080043 rfl sz h1) ?_ (dc (ai 0x3a9804180040185001080010000105080002 rfl sz h2))⟩;exact(hQ.from (σ.jk_le g1 tk)).tup (J (uh _ _)<|rs.take j) tk
structure vt(C:Addr):Prop where
 cd:∃cd,clsIn K C=some cd/\cd.hasDict=true
 ga:findIn K (.ref C) "__getattribute__"=some (some (.builtin "object.__getattribute__"))
 gx:findIn K (.ref C) "__getattr__"=some none
 sa:findIn K (.ref C) "__setattr__"=some (some (.builtin "object.__setattr__"))
 plain:plainOver K C=true
structure Gc:Prop where
 f:∀c n,kR c n=true->vt (dQ c)/\findIn K (.ref (dQ c)) (am n)=some none
 m:∀c n f,jO c n=some f->vt (dQ c)/\kR c n=false/\findIn K (.ref (dQ c)) (am n)=some (some (.ref (ik f)))/\typeIn K (.ref (ik f))=some (.type "function")/\keepIn K (.ref (ik f))=true
theorem rY{d:DictEntry}(r:EJ g e d)(f:Nat):d.key.isStr (am f)=Nat.beq e.1 f:=by refine xE r.key fun t ek=>?_;(refine J ek<|J (Mw _ _) ?_);rfl
theorem sQ(a:aT (EJ g) fs l):l.any (·.refKey)=false:=by
 induction a with
 |nil=>rfl
 |cons r _ ih=>refine xE r.key fun t ek=>?_;(refine J List.any_cons<|J ih ?_);delta DictEntry.refKey;refine J ek ?_;rfl
theorem u8(a:aT (EJ g) fs l)(f:Nat):(∃v d,aL Nat.beq fs f=some v/\l.find? (·.key.isStr (am f))=some d/\VR g v d.val)\/aL Nat.beq fs f=none/\l.find? (·.key.isStr (am f))=none:=by
 induction a with
 |nil=>exact .inr ⟨rfl,rfl⟩
 | @cons e d es l r t ih=>
  obtain⟨n,x⟩:=e;(refine J (List.find?_cons) ?_;refine J (rY r f) ?_);refine(?_ :(∃v d',@Bool.rec (fun Y=>Option V) (aL Nat.beq es f) (some x) (Nat.beq n f)=some v/\_)\/@Bool.rec (fun Y=>Option V) (aL Nat.beq es f) (some x) (Nat.beq n f)=none/\_);refine rt (Nat.beq n f) ?_ ?_
  ·exact .inl ⟨x,d,rfl,rfl,r.val⟩
  ·exact ih
theorem qS{D d C:Addr}{bn:Array DictEntry}{n:Nat}(ho:h.get? D=some (instObj C d))(hd:h.get? d=some {cls:=.type "dict",data:=.dict bn n}):W.InstAt h D (instObj C d) C (some {cls:=.type "dict",data:=.dict bn n}):=⟨ho,rfl,rfl,hd⟩
theorem findObj_own{od:Obj}{v:Value}(ok:vt C)(hn:findIn K (.ref C) name=some none)(e:lookIn name od=some (some v)):findObj K C (some od) name=some (.value v):=by refine an ok.cd fun cd hc hd=>?_;delta findObj;refine J hc<|J hn ?_;simp[W.ownOf,hd,e]
theorem xn(r:VR g v u):handedIn u=true:=by cases r<;>rfl
theorem Hl(G:Gl)(C:Gc){f:Nat}{expr:Bool}(e:bO σ.H x f=some v)(rx:VR σ.g x u)(hQ:bM σ σ.H v Q):wpAny M A (getAttr u (am f) expr) Q E σ.s:=by
 refine Or.elim (iA e) (fun ρ=>?_) fun e=>?_
 ·obtain⟨k,c,fs,rfl,e1,e⟩:=ρ;refine gZ (σ.inst e1 rx) fun D d bn n ρ Y Y ne ho fk hd a=>J ρ<|xA (C.f c f (fk _ (mM natE e))) fun ok hn=>Or.elim (u8 a f) (fun ρ=>?_) fun ρ=>?_
  ·refine bV ρ fun v' d' e2 e3 rv=>?_;rw [e] at e2;obtain rfl:=sj e2;exact get_value (σ.kin G.kin G.nt) (qS ho hd) ok.ga (findObj_own ok hn (by delta lookIn;simp only[e3])) (xn rv) (hQ.at rv _)
  ·refine xA ρ fun e2 Y=>?_;rw [e] at e2;exact nn (Eq.symm e2)
 ·exact nn e
theorem qb(hn:findIn K (.ref C) name=some none):takerIn K C name=some none:=by delta takerIn;refine J hn ?_;rfl
theorem Hy(a:aT (EJ g) fs l)(hv:VR g v val):
  aT (EJ g) (aP Nat.beq f v fs) (match l.findIdx? (·.key.isStr (am f)) with|some i=>l.modify i fun e=>{e with val:=val}|none=>l++ [⟨hs,.str (am f) t,val⟩]):=by
 induction a with
 |nil=>exact .cons ⟨⟨t,rfl⟩,hv⟩ .nil
 | @cons e d es l r tl ih=>
  obtain⟨n,x⟩:=e;(refine J (List.findIdx?_cons) ?_;refine J (rY r f) ?_);refine(?_ :aT _ (@Bool.rec (fun Y=>List (Nat×V)) ((n,x)::aP Nat.beq f v es) ((n,v)::es) (Nat.beq n f)) _);refine rt (Nat.beq n f) ?_ ?_
  ·exact .cons ⟨r.key,hv⟩ tl
  ·cases q:l.findIdx? (·.key.isStr (am f))<;>rw [q] at ih<;>exact .cons r ih
theorem w0(G:Gl)(C:Gc)(e:sP σ.H x f v=some H')(rx:VR σ.g x u)(rv:VR σ.g v val){Q:Unit->Shared->Prop}(hQ:Cq σ H' Q):wpAny M A (setAttr u (am f) val) Q E σ.s:=by
 refine Or.elim (iA e) (fun ρ=>?_) fun e=>?_
 ·obtain⟨k,c,fs,rfl,e1,e⟩:=ρ;refine xA (aW e) fun hf e=>xA (aW e) fun hl e=>?_;obtain rfl:=sj e;refine gZ (σ.inst e1 rx) fun D d bn n ρ hm hw ne ho fk hd a=>J ρ<|xA (C.f c f hf) fun ok hn=>an ok.cd fun cd hc hd'=>?_;have kin:=σ.kin G.kin G.nt;obtain l1:bn.size<=100:=by(refine aQ QX<|J a.length<|aQ (aw _) ?_);exact QG hl
  have I:=qS ho hd;refine set_plain kin I ok.sa (osa_open (s:={σ.s with toks:=σ.s.toks+1}) kin I ok.plain (qb hn) fun b=>?_);refine QC (QD (QC (QC (wpAny_loadPart ho (QC (Looks.here (looks_clsIn kin hc) ?_))))));refine J hd'<|QD (QC (QD (QC ?_)));delta nsSet;refine QC (QC (wpAny_askSetting (QD (QC (wpAny_mkText (QC (wpAny_loadPart hd ?_)))))));dsimp only;obtain cc:(!bn.any (·.key.isStr (am f)) && bn.any (·.refKey))=false:=by(exact aQ (Array.any_toList (p:=fun e:DictEntry=>e.refKey))<|J (sQ a)<|J (Bool.and_false _) rfl)
  refine J (aRefKeyMayBeTheName_at _ _)<|J cc ?_
  obtain key:∀hs t,∃bL n',Obj.putName (am f) hs (.str (am f) t) val {cls:=.type "dict",data:=.dict bn n}={cls:=.type "dict",data:=.dict bL n'}/\bL.size<=bn.size+1/\aT (EJ σ.g) (aP Nat.beq f v fs) bL.toList:=by
   intro hs t;refine J Obj.putName_eq ?_;delta Obj.putNameByArray;dsimp only;have z:=Hy (t:=t) (hs:=hs) (f:=f) a rv;rw [<-hJ] at z
   cases q:bn.findIdx? (·.key.isStr (am f)) with
   |some i=>rw [q] at z;exact⟨bn.modify i fun e=>{e with val:=val},n,rfl,J Array.size_modify<|Nat.le_succ _,J Array.toList_modify<|z⟩
   |none=>rw [q] at z;exact⟨bn.push ⟨hs,.str (am f) t,val⟩,n+1,rfl,J (Array.size_push _)<|QR _,J Array.toList_push<|z⟩
  refine wpAny_updatePart hd<|bV (key (PyData.keyHash w.params (am f)) (σ.s.toks+1)) fun bL n' ep el ea=>?_;have D':(σ.s.heap.update d (Obj.putName (am f) (PyData.keyHash w.params (am f)) (.str (am f) (σ.s.toks+1)) val)).get? d=some {cls:=.type "dict",data:=.dict bL n'}:=by refine aQ ep<|Heap.get?_update_self _ hd (by refine J ep ?_;rfl)
  refine QC (wpAny_lookBehind D' (pastItsLine_dict (J sizeLine_eq<|ai 0x43180140040000001904180040043040000004005080002 rfl l1 el)) ?_);obtain wa:σ.g.w D=.k k:=by refine bV ((σ.r.has k _ e1).resolve_left fun q=>nomatch q) fun a' d'' em wa Y=>?_;rw [hm] at em;exact xA (pj em) fun ρ0 ρ1=>J ρ0<|J ρ1<|wa
  exact QD (hQ (σ.upd k (.inst c (aP Nat.beq f v fs)) d _ hw (fun b n Y=>Heap.get?_update_ne _ _ _ _ n) (J D'<|fun q=>nn q.symm) (.inr ⟨D,d,hm,wa,hw,ne,(Heap.get?_update_ne _ _ _ _ ne).trans ho,fun p m=>(qJ natE m).elim (fun q=>q▸hf) (fk p),bL,n',D',ea⟩)) σ.upd_le rfl)
 ·exact nn e
theorem zW(G:Gl)(C:Gc){k c f m:Nat}{fs:List (Nat×V)}{pl:Sem Bool}{Q:Value×List Value->Shared->Prop}(hm:jO c f=some m)(hk:σ.H.obj k=some (.inst c fs))(rx:VR σ.g (.ref k) u)(hQ:Q (.ref (ik m),[u]) σ.s):wpAny M A (getMethod u (am f) pl) Q E σ.s:=by
 refine gZ (σ.inst hk rx) fun D d bn n ρ Y Y ne ho fk hd a=>?_;subst ρ;refine ez (C.m c f m hm) fun ok nf h1 h2 Y=>method_fn (σ.kin G.kin G.nt) (qS ho hd) ok.ga ok.gx h1 h2 ?_ hQ;refine(?_ :(lookIn (am f) {cls:=.type "dict",data:=.dict bn n}).map (·.isSome)=_);refine Or.elim (u8 a f) (fun ρ=>?_) fun ρ=>?_
 ·refine dy ρ fun v' d' e2 Y=>?_;have:=fk _ (mM natE e2);rw [nf] at this;exact d_ this
 ·refine xA ρ fun Y e2=>?_;delta lookIn;simp only[e2,sQ a];rfl
end
section
variable{σ τ:VS}{ns:cW}{env:Env}
theorem du(m:Loc)(i:Nat)(v:V):ae m i v i=some v:=by delta ae;exact J (Nat.beq_refl _) rfl
theorem bU(c:j≠i)(m:Loc)(v:V):ae m i v j=m j:=by delta ae;exact J (natE.f c) rfl
theorem vm(h:m j≠none):ae m i v j≠none:=by
 by_cases c:j=i
 ·(refine J c<|J (du _ _ _) ?_);exact fun q=>nn q.symm
 ·exact J (bU c _ _)<|h
theorem dW:∀{ns:cW},bK ns z=some k->(z,k)∈ns
 | [],e=>nn e
 |(a,j)::r,e=>by
  have e:@Bool.rec (fun Y=>Option NameKind) (bK r z) (some j) (Fast.sEq z a)=some k:=e;refine fE (Fast.sEq z a) (fun q=>?_) fun q=>?_
  ·obtain e:=q▸e;exact bt e<|J (Fast.sEq_iff.mp q)<| .head _
  ·obtain e:=q▸e;exact .tail _ (dW e)
structure NY(z:Str):Prop where
 ok:i5 z=true
 nz:cS z≠0
 db:(z == ("__debug__":Str))=false
 cd:(z == ("__classdict__":Str))=false
theorem gI(n:gu ns=true)(e:bK ns z=some k):NY z:=by exact xA (aX (List.all_eq_true.mp (aX n).2 _ (dW e))) fun h1 h2=>xA (aX h2) fun h2 h3=>xA (aX h1) fun h1 h0=>⟨h1,fun q=>(by obtain h0:=q▸h0;exact d_ h0),(DG _ _).symm.trans (tT h2),(DG _ _).symm.trans (tT h3)⟩
def dF(ns:cW)(env:Env)(b:Addr):Prop:=b=env.locals\/∃z,bK ns z=some .cell/\env.cells.lookup z=some b
structure rn(σ:VS)(m:Loc)(z:Str)(k:NameKind)(c:Addr):Prop where
 ob:∃o,(σ.g.w c).ob=some o
 own:k=.cell->(∃o,σ.g.w c=.f o)\/m 0≠none
 val:∃v₀,σ.s.heap.IsCell c v₀/\∀v,m (cS z)=some v->∃val,v₀=some val/\VR σ.g v val
structure Fr(σ:VS)(ns:cW)(env:Env)(m:Loc):Prop where
 fnk:env.scope.kind=.function
 gl:env.globals=mainGlobals
 bi:env.builtins=builtinsNs
 ok:gu ns=true
 kinds:∀z k,bK ns z=some k->∃k',env.kindOf z=some k'/\(k'=k\/(k=.free/\k'=.cell))
 loc:∃o,σ.g.w env.locals=.f o
 val:∃L,σ.s.heap.Ns env.locals L/\∀z v,bK ns z=some .local->m (cS z)=some v->∃val,L z=some val/\VR σ.g v val
 cel:∀z k,bK ns z=some k->k=.cell\/k=.free->∃c,env.cells.lookup z=some c/\rn σ m z k c
 apart:∀z c,env.cells.lookup z=some c->c≠env.locals/\∀y c',env.cells.lookup y=some c'->z≠y->c≠c'
theorem Le.keep(l:Le P σ τ)(n:¬P c)(e:(σ.g.w c).ob=some o):τ.g.w c=σ.g.w c/\τ.s.heap.get? c=σ.s.heap.get? c:=by
 have q:τ.g.w c=σ.g.w c:=by
  cases z:σ.g.w c with
  |g o'=>exact l.g.w c o' z
  |f o'=>exact l.f c o' z n
  |_=>obtain e:=z▸e;exact nn e
 exact⟨q,(τ.r.ex c o (q▸e)).trans (σ.r.ex c o e).symm⟩
theorem jS{h h':Heap}{a:Addr}{L:Str->Option Value}(n:h.Ns a L)(e:h'.get? a=h.get? a):h'.Ns a L:=m5 n fun o es ep ho q=>⟨o,es,ep,e.trans ho,q⟩
theorem iZ{h h':Heap}{a:Addr}{v:Option Value}(n:h.IsCell a v)(e:h'.get? a=h.get? a):h'.IsCell a v:=an n fun o ho q=>⟨o,e.trans ho,q⟩
theorem rn.le{k:NameKind}{c:Addr}{m':Loc}(r:rn σ m z k c)(l:Le P σ τ)(n:¬P c)(h0:m 0≠none->m' 0≠none)(hv:∀v,m' (cS z)=some v->m (cS z)=some v):rn τ m' z k c:=by obtain⟨⟨o,e⟩,r2,v₀,r3,r4⟩:=r;exact xA (l.keep n e) fun q1 q2=>⟨⟨o,q1▸e⟩,fun q=>(r2 q).imp (fun⟨o,q⟩=>⟨o,q1.trans q⟩) h0,v₀,iZ r3 q2,fun v q=>(r4 v (hv v q)).imp fun val q=>⟨q.1,q.2.mono l.g⟩⟩
theorem Fr.le(f:Fr σ ns env m)(l:Le dH σ τ):Fr τ ns env m:=by refine xE f.loc fun o e=>xA (l.keep id (by refine J e ?_;rfl:(σ.g.w env.locals).ob=some o)) fun q1 q2=>?_;exact an f.val fun L n hL=>⟨f.fnk,f.gl,f.bi,f.ok,f.kinds,⟨o,q1.trans e⟩,⟨L,jS n q2,fun z v a b=>(hL z v a b).imp fun val q=>⟨q.1,q.2.mono l.g⟩⟩,fun z k a b=>(f.cel z k a b).imp fun c q=>⟨q.1,q.2.le l id id fun v q=>q⟩,f.apart⟩
theorem F5(f:Fr σ ns env m)(e:bK ns z=some k)(hk:k=.local\/k=.cell\/k=.free)(hm:m (cS z)=some v)(hQ:bM σ σ.H v Q):wpAny M A (eval (.Name z pos) env) Q E σ.s:=by
 refine an (f.kinds z k e) fun k' e1 e2=>?_;have n:=gI f.ok e;refine wpAny_Name ?_ n.db;have cell:k=.cell\/k=.free->∃c val,env.cells.lookup z=some c/\σ.s.heap.IsCell c (some val)/\VR σ.g v val:=by intro hk;refine an (f.cel z k e hk) fun c hc r=>an r.val fun v₀ ic hv=>an (hv v hm) fun val ρ rv=>?_;subst ρ;exact⟨c,val,hc,ic,rv⟩
 have fin:∀{val},VR σ.g v val->Q val σ.s:=fun rv=>hQ.at rv σ.s.toks;refine Or.elim hk (fun ρ=>?_) fun hk=>?_
 ·subst ρ;refine Or.elim e2 (fun ρ=>?_) fun ρ=>?_
  ·subst ρ;exact an f.val fun L hL hl=>an (hl z v e hm) fun val q rv=>wpAny_loadName_local f.fnk e1 hL q (fin rv)
  ·exact xA ρ fun q Y=>NameKind.noConfusion q
 ·refine bV (cell hk) fun c val hc ic rv=>?_
  have k2:k'=.cell\/k'=.free:=by
   refine Or.elim e2 (fun ρ=>?_) fun ρ=>?_
   ·exact J ρ<|hk
   ·exact xA ρ fun Y ρ1=>aQ ρ1<| .inl rfl
  refine Or.elim k2 (fun ρ=>?_) fun ρ=>?_
  ·subst ρ;exact wpAny_loadName_cell f.fnk e1 hc ic (fin rv)
  ·subst ρ;exact wpAny_loadName_free f.fnk e1 hc ic (fin rv) n.cd
theorem jE{z:Str}{k:NameKind}{Q:Unit->Shared->Prop}(f:Fr σ ns env m)(e:bK ns z=some k)(hk:k=.local\/k=.cell/\m 0=none)(rv:VR σ.g v val)
  (hQ:∀τ,Le (dF ns env) σ τ->τ.H=σ.H->Fr τ ns env (ae m (cS z) v)->Q () τ.s):wpAny M A (bindName env z val) Q E σ.s:=by
 refine an (f.kinds z k e) fun k' e1 e2=>?_;have n:=gI f.ok e;have ne:∀{y k2},bK ns y=some k2->y≠z->cS y≠cS z:=fun q c d=>c (jH (gI f.ok q).ok n.ok d);refine wpAny_bindName ?_;rcases hk with rfl|⟨rfl,h0⟩<;>rcases e2 with rfl|⟨q,_⟩<;>first|(exact NameKind.noConfusion q;done)|skip
 ·refine an f.val fun L hL hl=>xE f.loc fun o wo=>wpAny_storeName_local e1 hL (fun h' hn hs=>?_) (by refine J f.fnk ?_;rfl);refine m5 hn fun o' es' ep' ho' hn'=>?_;let υ:VS:=σ.put env.locals (.f o') (σ.s.toks+1) ⟨.inr ⟨o,wo⟩⟩ (fun c n Y=>hs.2 c n) (.f o' ho');have l:Le (dF ns env) σ υ:=σ.put_le (.inr (.inl rfl));have l':Le (· =env.locals) σ υ:=σ.put_le (.inr rfl);refine hQ υ l rfl ⟨f.fnk,f.gl,f.bi,f.ok,f.kinds,⟨o',cQ _ _ _⟩,⟨_,⟨o',es',ep',ho',hn'⟩,fun y u a b=>?_⟩,fun y kd a b=>?_,f.apart⟩
  ·by_cases q:y=z
   ·subst q;obtain b:=(du _ _ _)▸b;exact bt b<|⟨val,if_pos rfl,rv.mono l.g⟩
   ·obtain b:=(bU (ne a q) _ _)▸b;exact an (hl y u a b) fun u' c ru=>⟨u',(QN q).trans c,ru.mono l.g⟩
  ·have q:y≠z:=fun q=>by rw [q,e] at a;obtain rfl:=sj a;rcases b with b|b<;>exact NameKind.noConfusion b
   exact an (f.cel y kd a b) fun c hc r=>⟨c,hc,r.le l' (f.apart y c hc).1 vm fun u hu=>(bU (ne a q) m v).symm.trans hu⟩
 ·refine an (f.cel z .cell e (.inl rfl)) fun c hc r=>xE ((r.own rfl).resolve_right fun q=>q h0) fun o wo=>an r.val fun v₀ ic hv=>wpAny_storeName_cell f.fnk e1 hc ic fun h' ic' hs=>an ic' fun o' ho' hd'=>?_;let υ:VS:=σ.put c (.f o') σ.s.toks ⟨.inr ⟨o,wo⟩⟩ (fun b n Y=>hs.2 b n) (.f o' ho');have l:Le (dF ns env) σ υ:=σ.put_le (.inr (.inr ⟨z,e,hc⟩));obtain l':Le (· =c) σ υ:=σ.put_le (.inr rfl);have nl:=(f.apart z c hc).1;refine xE f.loc fun ol wl=>hQ υ l rfl ⟨f.fnk,f.gl,f.bi,f.ok,f.kinds,⟨ol,(kU nl.symm _).trans wl⟩,?_,fun y kd a b=>?_,f.apart⟩
  ·refine an f.val fun L hL hl=>⟨L,jS hL (hs.2 _ nl.symm),fun y u a b=>?_⟩
   have q:y≠z:=fun q=>by(obtain a:=q▸a;obtain a:=e▸a);cases a
   obtain b:=(bU (ne a q) _ _)▸b;exact an (hl y u a b) fun u' c ru=>⟨u',c,ru.mono l.g⟩
  ·by_cases q:y=z
   ·refine J q<|⟨c,hc,⟨o',congrArg Ow.ob (cQ _ _ _)⟩,fun Y=>.inl ⟨o',cQ _ _ _⟩,some val,⟨o',ho',hd'⟩,fun u hu=>?_⟩;rw [du] at hu;exact bt hu<|⟨val,rfl,rv.mono l.g⟩
   ·exact an (f.cel y kd a b) fun c2 hc2 r2=>⟨c2,hc2,r2.le l' ((f.apart y c2 hc2).2 z c hc q) vm fun u hu=>(bU (ne a q) m v).symm.trans hu⟩
end
section
noncomputable def kM:Nat->Value
 |0=>.builtin "len"|1=>.type "range"|2=>.builtin "max"|3=>.type "int"|4=>.type "list"|5=>.type "dict"|6=>.type "tuple"|7=>.builtin "sorted"|_=>.builtin "repr"
structure Cx:Prop where
 G:Gl
 C:Gc
 fn:∀z f,i5 z=true->gJ Jx (cS z)=some f->nsIn K mainGlobals z=some (some (.ref (ik f)))/\keepIn K (.ref (ik f))=true
 cl:∀z c,i5 z=true->gJ K1 (cS z)=some c->nsIn K mainGlobals z=some (some (.ref (dQ c)))/\keepIn K (.ref (dQ c))=true
 bl:∀z f,i5 z=true->gJ Ju (cS z)=some f->nsIn K mainGlobals z=some none/\nsIn K builtinsNs z=some (some (kM f))
 con:∀z v,i5 z=true->aL Nat.beq LF (cS z)=some v->∃u,nsIn K mainGlobals z=some (some u)/\∀σ:VS,VR σ.g v u
 ini:∀c f,r_ c=some f->makesIn K (dQ c)=true/\findIn K (.ref (dQ c)) "__init__"=some (some (.ref (ik f)))/\typeIn K (.ref (ik f))=some (.type "function")
structure bZ(n:Nat)(A:Around):Prop where
 d:A.depth+10*n+25<=1000
 u:A.units+100*n+60<=cLine
 h:A.handled=none
 g:A.guards=some []
variable{n:Nat}{O:CK}{ns:cW}{ex o xa xb xc:Expr}
theorem yB(h:bZ n A):A.units+1 < cLine:=by obtain this:=h.u;exact ai 0x1bc0c7064045000001006043140040043 rfl this
def xY(σ:VS)(k:KV)(r:V×Hp)(Q:Bool->Shared->Prop):Prop:=∀τ b,Le dH σ τ->k (.bool b) τ.H=some r->Q b τ.s
def FJ(σ:VS)(k:List V->Hp->KX)(r:V×Hp)(l:Nat)(Q:List Value->Shared->Prop):Prop:=∀τ xs vals,Le dH σ τ->c6 τ.g xs vals->vals.length=l->k xs τ.H=some r->Q vals τ.s
def a9(n:Nat)(ns:cW)(f:SE)(ex:Expr):Prop:=∀A,bZ n A->∀σ env m,Fr σ ns env m->∀k r,f m σ.H k=some r->∀Q E,Fin σ k r Q->wpAny M A (eval ex env) Q E σ.s
def jD(n:Nat)(ns:cW)(f:SE)(ex:Expr):Prop:=∀A,bZ n A->∀σ env m,Fr σ ns env m->∀k r,f m σ.H k=some r->∀Q E,xY σ k r Q->wpAny M A (PySem.isTrue ex env (eval ex env)) Q E σ.s
def xf(n:Nat)(ns:cW)(f:yd)(exs:List Expr):Prop:=∀A,bZ n A->∀σ env m,Fr σ ns env m->∀k r,f m σ.H k=some r->∀pos Q E,FJ σ k r exs.length Q->wpAny M A (spliced (backTo pos (starEach exs env))) Q E σ.s
def gn(n:Nat)(O:CK)(ns:cW)(md:Bool)(x:X)(ex:Expr):Prop:=@Bool.rec (fun Y=>Prop) (a9 n ns (bS O x) ex) (jD n ns (bS O x) ex) md
theorem bB:gn n O ns md .bad ex:=by cases md<;>exact fun A hA σ env m fr k r e=>nn e
theorem ir{x:X}(h:b=true->gn n O ns md x ex):gn n O ns md (ou b x) ex:=by cases b with|false=>exact bB|true=>exact h rfl
theorem lZ{o:Option α}{f:α->X}{x:X}(h0:gn n O ns md x ex)(h:∀a,o=some a->gn n O ns md (f a) ex):gn n O ns md (EG o x f) ex:=by cases o with|none=>exact h0|some a=>exact h a rfl
theorem qC{x:X}(c:∀env,PySem.isTrue ex env (eval ex env)=(do let v <-eval ex env;standAt ex.pos;holding [v] (truthy v)))(h:gn n O ns false x ex):gn n O ns md (Lk md x) ex:=by
 cases md with
 |false=>exact h
 |true=>intro A hA σ env m fr k r e Q E hQ;refine J (c env)<|QC (h A hA σ env m fr _ r e _ E fun τ a u l ru e=>QC (wpAny_standAt (QE ?_)));exact an (aZ e) fun t e1 e=>pE e1 ru fun tk=>hQ (τ.tk tk) t (l.trans τ.tk_le) e
theorem Mj{o:Option NameKind}(c:tY o=true):∃k,o=some k/\(k=.local\/k=.cell\/k=.free):=by exact oq (P:=fun o=>∃k,o=some k/\(k=.local\/k=.cell\/k=.free)) c (fun Y=>⟨_,rfl,.inl rfl⟩) (fun Y=>⟨_,rfl,.inr (.inl rfl)⟩) (fun Y=>⟨_,rfl,.inr (.inr rfl)⟩) d_
theorem qj(c:tY (bK ns z)=true):a9 n ns (gN (cS z)) (.Name z pos):=by intro A hA σ env m f k r e Q E hQ;exact an (aZ e) fun v e1 e=>an (Mj c) fun kd e2 hk=>F5 f e2 hk e1 (hQ.toV e)
theorem L2{o:Option NameKind}(c:qW o=true):o=some .globalImplicit:=by exact oq (P:=fun o=>o=some .globalImplicit) c d_ d_ d_ fun Y=>rfl
theorem hO(fr:Fr σ ns env m)(c:qW (bK ns z)=true)(C:Cx)(hg:nsIn K mainGlobals z=some (some u)\/nsIn K mainGlobals z=some none/\nsIn K builtinsNs z=some (some u))(h:Q u σ.s):wpAny M A (eval (.Name z pos) env) Q E σ.s:=by
 have e:=L2 c;refine an (fr.kinds z _ e) fun k' e1 e2=>Or.elim e2 (fun ρ=>?_) fun ρ=>?_
 ·subst ρ;refine Name_function_global fr.fnk e1 ?_ (gI fr.ok e).db;have kin:=σ.kin C.G.kin C.G.nt;delta loadGlobal;refine J fr.gl<|J fr.bi ?_;refine Or.elim hg (fun q=>?_) fun ρ=>?_
  ·exact QC ((looks_nsIn kin q).here (QD h))
  ·exact xA ρ fun q1 q2=>QC ((looks_nsIn kin q1).here (QC ((looks_nsIn kin q2).here (QD h))))
 ·exact xA ρ fun q Y=>NameKind.noConfusion q
theorem yY(C:Cx):gn n O ns false (NT ns z) (.Name z pos):=by
 delta NT;refine fE (tY (bK ns z)) (fun q=>?_) fun q=>?_
 ·exact qj q
 ·exact ir fun h=>lZ bB fun v e=>xA (aX h) fun h1 h2=>an (C.con z v h2 e) fun u hu rv=>fun A hA σ env m fr k r e Q E hQ=>hO fr h1 C (.inl hu) (hQ σ v u (.refl _) (rv σ) e)
theorem Dg{c:Const}{kk:Nat}:gn n O ns false (Mf c) (.Constant c kk pos):=by
 refine Ff (P:=fun x=>gn n O ns false x (.Constant c kk pos)) c bB (fun ρ=>?_) (fun b ρ=>?_) (fun i ρ=>?_) fun s ρ=>?_ <;>refine J ρ ?_
 ·exact fun A hA σ env m fr k r e Q E hQ=>wpAny_Constant_none (hQ σ _ _ (.refl _) .none e)
 ·exact fun A hA σ env m fr k r e Q E hQ=>wpAny_Constant_bool (hQ σ _ _ (.refl _) (.bool _) e)
 ·exact fun A hA σ env m fr k r e Q E hQ=>wpAny_Constant_int (hQ (σ.tk _) _ _ σ.tk_le (.int _ _) e)
 ·refine ir fun h=>fun A hA σ env m fr k r e Q E hQ=>wpAny_Constant_str ?_;obtain rv:∀{g t},VR g (.lit (cS s)) (.str s t):=fun{g t}=>by obtain this:=VR.lit (cS s) t;rwa [dT h] at this
  exact hQ (σ.tk _) _ _ σ.tk_le rv e
set_option tactic.hygienic true in
theorem jJ(c:fJ ex=true)(whole:Sem Value):attributeBase ex attr env whole=whole:=by
 cases ex<;>first|rfl|skip
 rename_i f es ks pos;cases f<;>first|rfl|skip
 cases es<;>cases ks<;>first|exact d_ c|rfl
theorem bM.mp(hQ:bM σ H' v Q)(h:∀u s,Q u s->Q' u s):bM σ H' v Q':=fun τ u l e ru=>h _ _ (hQ τ u l e ru)
theorem zc(C:Cx)(ih:a9 n ns f o)(hz:i5 z=true)(hp:fJ o=true):a9 n ns (rU (.attr (cS z)) f) (.Attribute o z pos):=by intro A hA σ env m fr k r e Q E hQ;refine J (arm_eval_Attribute _ _ _ _)<|J (jJ hp _) ?_;refine QC (ih A hA σ env m fr _ r e _ E fun τ a u l ru e=>?_);refine an (aZ e) fun v e1 e=>QC (wpAny_standAt (QC (QE ?_)));exact aQ (dT hz)<|Hl C.G C.C e1 ru (((hQ.from l).toV e).mp fun u s q=>QC (wpAny_letTemporaryGo (QD q)))
theorem mz(ia:a9 n ns f xa)(ib:a9 n ns g xb)(hA:bZ n A)(fr:Fr σ ns env m){k:V->V->Hp->KX}(e:yc f g m σ.H k=some r){Q:Value->Value->Shared->Prop}(hQ:∀τ x y u z,Le dH σ τ->VR τ.g x u->VR τ.g y z->k x y τ.H=some r->Q u z τ.s):
  wpAny M A (eval xa env) (fun u s₁=>wpAny M A (eval xb env) (Q u) E s₁) E σ.s:=
 ia A hA σ env m fr _ r e _ E fun τ x u l ru e=>ib A hA τ env m (fr.le l) _ r e _ E fun υ y z l' rz e=>hQ υ x y u z (l.trans l') (l'.vr ru) rz e
theorem vG{op:Operator}(ia:a9 n ns f xa)(ib:a9 n ns g xb):a9 n ns (rB (.bin op) f g) (.BinOp xa op xb pos):=by intro A hA σ env m fr k r e Q E hQ;refine wpAny_BinOp (mz ia ib hA fr e fun τ x y u z l ru rz e=>?_);exact an (aZ e) fun v e1 e=>Kh e1 ru rz ((hQ.from l).toV e)
theorem Dh(C:Cx){op:CmpOp}(ia:a9 n ns f xa)(ib:a9 n ns g xb)(c:behindInMarks op xb=false):a9 n ns (rB (.cmp op) f g) (.Compare xa [op] [xb] pos):=by intro A hA σ env m fr k r e Q E hQ;refine wpAny_Compare1 (mz ia ib hA fr e fun τ x y u z l ru rz e=>?_) c;exact an (aZ e) fun t e1 e=>EV C.G (yB hA) e1 ru rz fun tk=>hQ (τ.tk tk) _ _ (l.trans τ.tk_le) (.bool _) e
theorem mG(C:Cx){op:CmpOp}(ia:a9 n ns f xa)(ib:a9 n ns g xb)(c:behindInMarks op xb=false):jD n ns (rB (.cmp op) f g) (.Compare xa [op] [xb] pos):=by intro A hA σ env m fr k r e Q E hQ;refine wpAny_isTrue_Compare1 (mz ia ib hA fr e fun τ x y u z l ru rz e=>?_) c;exact an (aZ e) fun t e1 e=>EV C.G (yB hA) e1 ru rz fun tk=>wpAny_truthy_bool (hQ (τ.tk tk) t (l.trans τ.tk_le) e)
theorem pO{xi:Expr}{i:Value}(ty:EI s u)(hs:subscripted xi false u i=operate [u,i] (getItem u i)\/subscripted xi false u i=operate [i,u] (getItem u i))(hg:wpAny M A (getItem u i) Q E s):
  wpAny M A (do standAt pos;let r <-subscripted xi (<-getitemInPython u) u i;letTemporaryGo xa u r;pure r) Q E s:=by
 refine an ty fun D ρ ty=>?_;subst ρ;refine QC (wpAny_standAt (QC ?_));refine J (getitemInPython_of_ne (by simp)) ?_;have fin:wpAny M A (subscripted xi false (.ref D) i) (fun r s₃=>wpAny M A (letTemporaryGo xa (.ref D) r >>= fun Y=>pure r) Q E s₃) E s:=by obtain z:wpAny M A (getItem (.ref D) i) (fun r s₃=>wpAny M A (letTemporaryGo xa (.ref D) r >>= fun Y=>pure r) Q E s₃) E s:=wpAny_mono hg (fun r s₃ h₃=>QC (wpAny_letTemporaryGo (QD h₃))) fun Y Y z=>z;rcases hs with q|q<;>refine J q ?_ <;>exact wpAny_operating z
 refine Or.elim ty (fun ty=>?_) fun ρ=>Or.elim ρ (fun ty=>?_) fun ty=>?_
 ·exact QC (wpAny_specialOf ty PySem.F.slot_list_getitem.lookup (QD (QC fin)))
 ·exact QC (wpAny_specialOf ty PySem.F.slot_dict_getitem.lookup (QD (QC fin)))
 ·exact QC (wpAny_specialOf ty PySem.F.slot_tuple_getitem.lookup (QD (QC fin)))
theorem CY(C:Cx)(ia:a9 n ns f xa)(ib:a9 n ns g xb)(hs:∀u i,subscripted xb false u i=operate [u,i] (getItem u i)):a9 n ns (rB .sub f g) (.Subscript xa xb pos):=by intro A hA σ env m fr k r e Q E hQ;refine J (arm_eval_Subscript _ _ _ _)<|QC (wpAny_mono (mz ia ib hA fr e fun τ x y u z l ru rz e=>?_) (fun o s₁ h₁=>QC (QE h₁)) fun Y Y z=>z);exact an (aZ e) fun v e1 e=>xA (K8 C.G e1 ru rz fun val tk rv=>hQ (τ.tk tk) v val (l.trans τ.tk_le) rv e) fun ty hg=>pO ty (.inl (hs _ _)) hg
theorem C8(ia:a9 n ns f xa)(ib:a9 n ns g xb):a9 n ns (rB .sfr f g) (.Subscript xa (.Slice (some xb) none none p) pos):=by intro A hA σ env m fr k r e Q E hQ;refine J (arm_eval_Subscript _ _ _ _)<|QC (ia A hA σ env m fr _ r e _ E fun τ x u l ru e=>QC (QE ?_));refine J (arm_eval_Slice _ _ _ _ _)<|(?_ :wpAny _ _ (eval xb env >>= fun l=>_) _ _ _);refine QC (ib A hA τ env m (fr.le l) _ r e _ E fun υ y z l' rz e=>?_);refine an (aZ e) fun v e1 e=>bP (L_ (A:=A) (E:=E) e1 (l'.vr ru) rz ((hQ.from (l.trans l')).toV e) υ.s.toks) fun t ρ ty hg=>?_;subst ρ;refine QC (QE (QD (QC (QE (QD (wpAny_newObj_type ?_ (by first|exact lin 0x830400000040010c10c10c00c0000000000 rfl|trivial)))))));exact pO ⟨t,rfl,.inr (.inr ty)⟩ (.inr rfl) hg
theorem Eh(ia:a9 n ns f xa)(ib:a9 n ns g xb):a9 n ns (rB .sto f g) (.Subscript xa (.Slice none (some xb) none p) pos):=by intro A hA σ env m fr k r e Q E hQ;refine J (arm_eval_Subscript _ _ _ _)<|QC (ia A hA σ env m fr _ r e _ E fun τ x u l ru e=>QC (QE ?_));refine J (arm_eval_Slice _ _ _ _ _)<|QC (QD (QC (QE ?_)));refine ib A hA τ env m (fr.le l) _ r e _ E fun υ y z l' rz e=>an (aZ e) fun v e1 e=>bP (KW (A:=A) (E:=E) e1 (l'.vr ru) rz ((hQ.from (l.trans l')).toV e) υ.s.toks) fun t ρ ty hg=>?_;subst ρ;refine QC (QE (QD (wpAny_newObj_type ?_ (by first|exact lin 0x830400000040010c10c10c00c0000000000 rfl|trivial))));exact pO ⟨t,rfl,.inr (.inr ty)⟩ (.inr rfl) hg
theorem C0(ih:a9 n ns f o):a9 n ns (rU .not f) (.UnaryOp .Not o pos):=by intro A hA σ env m fr k r e Q E hQ;refine J (arm_eval_UnaryOp _ _ _ _)<|QC (ih A hA σ env m fr _ r e _ E fun τ a u l ru e=>QC (wpAny_standAt (QE ?_)));refine an (aZ e) fun t e1 e=>?_;delta unaryOp;refine QE<|(?_ :wpAny _ _ (truthy u >>= fun t=>pure (Value.bool !t)) _ _ _);exact QC (pE e1 ru fun tk=>QD (hQ (τ.tk tk) _ _ (l.trans τ.tk_le) (.bool _) e))
theorem za(ih:jD n ns f o):jD n ns (rU .not f) (.UnaryOp .Not o pos):=fun A hA σ env m fr k r e Q E hQ=>wpAny_isTrue_Not (ih A hA σ env m fr _ r e _ E fun τ b l e=>hQ τ (!b) l e)
theorem Dm(ih:a9 n ns f o):a9 n ns (rU .neg f) (.UnaryOp .USub o pos):=by intro A hA σ env m fr k r e Q E hQ;refine J (arm_eval_UnaryOp _ _ _ _)<|QC (ih A hA σ env m fr _ r e _ E fun τ a u l ru e=>QC (wpAny_standAt (QE ?_)));refine an (aZ e) fun i e1 e=>?_;rw [cM e1] at ru;exact xE (cH ru) fun t ρ=>J ρ<|PyProof.Rows.neg_int (hQ (τ.tk _) _ _ (l.trans τ.tk_le) (.int _ _) e)
theorem xY.from{Q:Bool->Shared->Prop}(h:xY σ k r Q)(l:Le dH σ τ):xY τ k r Q:=fun υ b l' e=>h υ b (l.trans l') e
theorem Dq(ic:jD n ns c xc)(ia:a9 n ns f xa)(ib:a9 n ns g xb):a9 n ns (FY c f g) (.IfExp xc xa xb pos):=fun A hA σ env m fr k r e Q E hQ=>
 wpAny_IfExp (ic A hA σ env m fr _ r e _ E fun τ b l e=>by
  cases b with
  |true=>exact ia A hA τ env m (fr.le l) k r e Q E (hQ.from l)
  |false=>exact ib A hA τ env m (fr.le l) k r e Q E (hQ.from l))
theorem yH(ic:jD n ns c xc)(ia:jD n ns f xa)(ib:jD n ns g xb):jD n ns (FY c f g) (.IfExp xc xa xb pos):=by
 intro A hA σ env m fr k r e Q E hQ;refine J (arm_isTrue_IfExp _ _ _ _ _ _)<|QC (ic A hA σ env m fr _ r e _ E fun τ b l e=>?_)
 cases b with
 |true=>exact ia A hA τ env m (fr.le l) k r e Q E (hQ.from l)
 |false=>exact ib A hA τ env m (fr.le l) k r e Q E (hQ.from l)
noncomputable def Lq:BoolOp->Bool
 |.And=>false|.Or=>true
def HZ(n:Nat)(ns:cW)(f:SE)(op:BoolOp)(exs:List Expr):Prop:=∀A,bZ n A->∀σ env m,Fr σ ns env m->∀k r,f m σ.H k=some r->∀pos Q E,Fin σ k r Q->wpAny M A (boolOp pos op (evalEach exs env)) Q E σ.s
def Cr(n:Nat)(ns:cW)(f:SE)(op:BoolOp)(exs:List Expr):Prop:=∀A,bZ n A->∀σ env m,Fr σ ns env m->∀k r,f m σ.H k=some r->∀Q E,xY σ k r Q->wpAny M A (allTrue op exs env) Q E σ.s
theorem wJ(ia:a9 n ns f xa)(ib:HZ n ns g op (xb::eI)):HZ n ns (Mx (Lq op) f g) op (xa::xb::eI):=by intro A hA σ env m fr k r e pos Q E hQ;refine(?_ :wpAny _ _ (eval xa env >>= fun v=>standAt pos >>= fun Y=>holding [v] (truthy v) >>= fun t=>_) _ _ _);refine QC (ia A hA σ env m fr _ r e _ E fun τ v u l ru e=>QC (wpAny_standAt (QC (QE ?_))));refine an (aZ e) fun t e1 e=>pE e1 ru fun tk=>?_;have l':Le dH σ (τ.tk tk):=l.trans τ.tk_le;obtain go:g m τ.H k=some r->wpAny M A (boolOp pos op (evalEach (xb::eI) env)) Q E (τ.tk tk).s:=fun e=>ib A hA (τ.tk tk) env m (fr.le l') k r e pos Q E (hQ.from l');obtain stop:k v τ.H=some r->Q u (τ.tk tk).s:=fun e=>hQ (τ.tk tk) v u l' ru e;cases op<;>cases t<;>first|exact go e|exact QD (stop e)
theorem qY(ih:jD n ns f ex):Cr n ns f op [ex]:=by intro A hA σ env m fr k r e Q E hQ;refine J (arm_allTrue_cons _ _ _ _)<|QC (ih A hA σ env m fr _ r e _ E fun τ b l e=>?_);cases op<;>cases b<;>exact QD (hQ τ _ l e)
theorem oQ(ia:jD n ns f xa)(ib:Cr n ns g op (xb::eI)):Cr n ns (Mx (Lq op) f g) op (xa::xb::eI):=by intro A hA σ env m fr k r e Q E hQ;refine J (arm_allTrue_cons _ _ _ _)<|QC (ia A hA σ env m fr _ r e _ E fun τ b l e=>?_);obtain go:g m τ.H k=some r->wpAny M A (allTrue op (xb::eI) env) Q E τ.s:=fun e=>ib A hA τ env m (fr.le l) k r e Q E (hQ.from l);obtain stop:k (.bool b) τ.H=some r->Q b τ.s:=fun e=>hQ τ b l e;cases op<;>cases b<;>first|exact go e|exact QD (stop e)
theorem Fa(ih:∀md ex,gn n O ns md (ce md ns ex) ex):∀{md:Bool} {exs:List Expr},exs≠ []->@Bool.rec (fun Y=>Prop) (HZ n ns (bS O (M1 ce md ns (Lq op) exs)) op exs) (Cr n ns (bS O (M1 ce md ns (Lq op) exs)) op exs) md
 |md,[],h=>absurd rfl h
 |md,[a],_=>by
  refine rt md ?_ ?_
  ·exact qY (ih true a)
  ·exact fun A hA σ env m fr k r e pos Q E hQ=>ih false a A hA σ env m fr k r e Q E hQ
 |md,a::b::r,_=>by
  have t:=Fa ih (op:=op) (md:=md) (exs:=b::r) (List.cons_ne_nil _ _)
  cases md with
  |false=>exact wJ (ih false a) t
  |true=>exact oQ (ih true a) t
end
section
variable{le:α->α->Bool}
theorem zU(r:List α)(c:le x y=true):rK le x (y::r)=x::y::r:=by refine(?_ :@Bool.rec (fun Y=>List α) (y::rK le x r) (x::y::r) (le x y)=_);exact J c rfl
theorem Ag(r:List α)(c:le x y=false):rK le x (y::r)=y::rK le x r:=by refine(?_ :@Bool.rec (fun Y=>List α) (y::rK le x r) (x::y::r) (le x y)=_);exact J c rfl
theorem o8(x:α)(l:List α):(rK le x l).Perm (x::l):=by
 induction l with
 |nil=>exact .refl _
 |cons y r ih=>
  refine fE (le x y) (fun c=>?_) fun c=>?_
  ·rw [zU r c]
  ·exact J (Ag r c)<|(ih.cons y).trans (.swap ..)
theorem gW(l:List α):(c9 le l).Perm l:=by
 induction l with
 |nil=>exact .refl _
 |cons x r ih=>exact(o8 x _).trans (ih.cons x)
structure JF(le:α->α->Bool):Prop where
 tot:∀a b,le a b=false->le b a=true
 tr:∀a b c,le a b=true->le b c=true->le a c=true
 anti:∀a b,le a b=true->le b a=true->a=b
theorem rD(L:JF le)(x:α)(h:l.Pairwise fun a b=>le a b=true):(rK le x l).Pairwise fun a b=>le a b=true:=by
 induction l with
 |nil=>exact List.pairwise_singleton ..
 |cons y r ih=>
  have h0:=List.pairwise_cons.mp h;refine fE (le x y) (fun c=>?_) fun c=>?_
  ·refine J (zU r c)<|List.pairwise_cons.mpr ⟨fun z hz=>?_,h⟩;refine pQ hz ?_ fun hz=>?_
   ·exact c
   ·exact L.tr _ _ _ c (h0.1 z hz)
  ·refine J (Ag r c)<|List.pairwise_cons.mpr ⟨fun z hz=>?_,ih h0.2⟩;refine pQ ((o8 x r).mem_iff.mp hz) ?_ fun hz=>?_
   ·exact L.tot _ _ c
   ·exact h0.1 z hz
theorem jT(L:JF le)(l:List α):(c9 le l).Pairwise fun a b=>le a b=true:=by
 induction l with
 |nil=>exact .nil
 |cons x r ih=>exact rD L x ih
theorem kA(L:JF le)(p:m.Perm l)(s:m.Pairwise fun a b=>le a b=true):m=c9 le l:=
 (p.trans (gW l).symm).eq_of_pairwise (fun a b Y Y=>L.anti a b) s (jT L l)
end
theorem Nt:JF u9:=⟨fun a b h=>by delta u9 at*;simp at h ⊢;lia,fun a b c h1 h2=>by delta u9 at*;simp at h1 h2 ⊢;lia,fun a b h1 h2=>by delta u9 at*;simp at h1 h2;lia⟩
theorem lU(a b:Str):ug a b=true↔a.cps.toList<=b.cps.toList:=by delta ug;refine J (PyProof.Rows.ltCps_eq _ _) ?_;simp
theorem Ci:JF ug where
 tot a b h:=by
  refine jj (lU _ _) ?_;have:¬(a.cps.toList<=b.cps.toList):=fun q=>by rw [(lU a b).mpr q] at h;cases h
  exact Std.le_of_not_ge this
 tr a b c h1 h2:=by rw [lU] at*;exact Std.le_trans h1 h2
 anti a b h1 h2:=by rw [lU] at*;obtain this:=Std.le_antisymm h1 h2;cases a;cases b;simp only[Str.mk.injEq];exact Array.toList_inj.mp this
theorem ph:∀(p:Str) (l:List Str),risingS p l=true->(p::l).Pairwise fun a b=>ug a b=true
 |p,[],_=>List.pairwise_singleton ..
 |p,x::r,h=>by
  unfold risingS at h;rw [Bool.and_eq_true] at h;have ih:=ph x r h.2;refine List.pairwise_cons.mpr ⟨fun z hz=>?_,ih⟩;refine pQ hz ?_ fun hz=>?_
  ·exact h.1
  ·exact Ci.tr _ _ _ h.1 ((List.pairwise_cons.mp ih).1 z hz)
theorem xk(p:m.Perm l)(s:sortedS m=true):m=c9 ug l:=
 kA Ci p (by
  cases m with
  |nil=>exact .nil
  |cons x r=>exact ph x r s)
theorem w6(p:m.Perm l)(s:m.Pairwise (· <= ·)):m=c9 u9 l:=kA Nt p (s.imp fun h=>QO h)
theorem z_(e:o0 xs=some is)(a:c6 g xs vs):IntsAre vs is:=by
 induction a generalizing is with
 |nil=>refine bt e ?_;exact .nil
 |cons r t ih=>refine an (ah e) fun i e1 e=>an (ah e) fun js e2 e=>bt e ?_;rw [cM e1] at r;exact xE (cH r) fun tk ρ=>J ρ<| .cons _ tk (ih e2)
theorem BA(e:mf xs=some ss)(a:c6 g xs vs):StrsAre vs ss:=by
 induction a generalizing ss with
 |nil=>refine bt e ?_;exact .nil
 |cons r t ih=>refine an (ah e) fun i e1 e=>an (ah e) fun js e2 e=>bt e ?_;rw [IH e1] at r;exact xE (yk r) fun tk ρ=>J ρ<| .cons _ tk (ih e2)
theorem yx(h:StrsAre vs ss):vs.length=ss.length:=by
 induction h with
 |nil=>rfl
 |cons _ _ _ ih=>exact congrArg Nat.succ ih
theorem r6(h:IntsAre vs ns):c6 g (dq V.int ns) vs:=by
 induction h with
 |nil=>exact .nil
 |cons n t r ih=>exact .cons (.int n t) ih
theorem zj(h:StrsAre vs ns):c6 g (dq V.txt ns) vs:=by
 induction h with
 |nil=>exact .nil
 |cons n t r ih=>exact .cons (.txt n t) ih
theorem xh(r:List Int):∀i:Int,(hM r i=i\/hM r i∈r)/\i<=hM r i/\∀a∈r,a<=hM r i:=by
 induction r with
 |nil=>exact fun i=>⟨.inl rfl,Int.le_refl _,fun a h=>nomatch h⟩
 |cons b r ih=>
  intro i;refine J (show hM (b::r) i=hM r (@Bool.rec (fun Y=>Int) i b (decide (i < b))) from rfl) ?_
  have key:∀j,(j=i\/j=b)->i<=j->b<=j->(hM r j=i\/hM r j∈b::r)/\i<=hM r j/\∀a∈b::r,a<=hM r j:=fun j q h1 h2=>by
   refine fp (ih j) fun z1 z2 z3=>⟨z1.elim (fun e=>J e<|q.imp id fun q=>List.mem_cons.mpr (.inl q)) fun m=>.inr (.tail _ m),Int.le_trans h1 z2,fun a m=>?_⟩
   refine pQ m ?_ fun m=>?_
   ·exact Int.le_trans h2 z2
   ·exact z3 a m
  by_cases c:i < b
  ·exact J (QO c)<|key b (.inr rfl) (Int.le_of_lt c) (Int.le_refl _)
  ·exact J (QP c)<|key i (.inl rfl) (Int.le_refl _) (Int.not_lt.mp c)
theorem bM.at'(hQ:bM σ σ.H v Q)(gr:Grows σ.s.heap h')(ha:σ.s.heap.get? a=none)(e:h'.get? a=some o)(tk:Tok)(rv:∀g',g'.w a=.g o->VR g' v val):Q val {σ.s with heap:=h',toks:=tk}:=
 hQ (σ.put a (.g o) tk ⟨.inl (σ.r.live a ha)⟩ (fun c n m=>σ.r.same gr c m) (.g o e)) val (σ.put_le (.inl fun o q=>by rw [σ.r.live a ha] at q;exact Ow.noConfusion q)) rfl (rv _ (cQ _ _ _))
theorem bM.new'(hQ:bM σ (σ.H.new o) (.ref σ.H.next) Q)(gr:Grows σ.s.heap h')(ha:σ.s.heap.get? a=none)(tk:Tok)(la:h'.get? a≠none)(q:∀g',σ.g.le g'->OR g' h' a a o):Q (.ref a) {σ.s with heap:=h',toks:=tk}:=by
 have op:pX σ.g a:=⟨.inl (σ.r.live a ha)⟩
 have nf:∀o,σ.g.w a≠ .f o:=fun o q=>by rw [σ.r.live a ha] at q;exact Ow.noConfusion q
 exact hQ (σ.mk1 a a o tk op op (fun c Y Y n=>σ.r.same gr c n) la la (q _ (iw (.inl (σ.r.new _ (QR _))) op.ng op.ng))) _ (σ.mk1_le (.inl nf) (.inl nf)) rfl (.ref _ _ _ (m9 _ _ _))
theorem yP{lo hi:Int}{t1 t2 t3:Tok}(hQ:bM σ σ.H (.rng lo hi) Q)(tk:Tok):Q (.ref σ.s.heap.objs.size) {σ.s with heap:=σ.s.heap.push {cls:=.type "range",data:=.fields #[.int lo t1,.int hi t2,.int 1 t3]},toks:=tk}:=
 hQ.psh (H':=σ.H) _ rfl tk fun g' l e=>.rng lo hi _ _ _ _ e
theorem E2(g1:σ.s.heap.get? D=some {cls:=.type "list",data:=.seq us m})(hl:us.size=l)(h1:Nat.ble l 65536=true)(hQ:bM σ σ.H (.int (Int.ofNat l)) Q):wpAny M A (PySem.call (.builtin "len") [.ref D]) Q E σ.s:=
 Calls.call_len_list (aU g1) (by have:=QG h1;lia) (hQ.at (aQ hl<| .int _ _) _)
theorem IR(hA:A.handled=none)(g1:σ.s.heap.get? D=some {cls:=.type "list",data:=.seq us m})(ia:IntsAre us.toList (i::is))(hQ:bM σ σ.H (.int (hM is i)) Q):wpAny M A (PySem.call (.builtin "max") [.ref D]) Q E σ.s:=by
 refine xE ia.allInts.items fun ys e=>?_;have hns:i::is=ys.toList.map (·.1):=by(exact aQ ia.numsOf<|aQ (nums_intItems _)<|aQ e rfl)
 have hsz:0 < ys.size:=by have h3:0 < (i::is).length:=Nat.succ_pos _;rw [hns,List.length_map,Array.length_toList] at h3;exact h3
 obtain hl:σ.s.heap.IsList D (intItems ys):=by refine aQ e ?_;simpa using aU g1
 refine max_intList hA hl hsz fun v h' tk hv hk=>xE (intItems_at hv) fun t ρ=>J ρ<|xA (argBest_gt (numAt ys) (ys.size - 1)) fun b1 b2=>fp (xh is i) fun q0 q1 q2=>?_
 obtain hm:numAt ys (argBest (fun i j=>decide (numAt ys i > numAt ys j)) (ys.size - 1))=hM is i:=by
  apply Int.le_antisymm
  ·have:numAt ys (argBest (fun i j=>decide (numAt ys i > numAt ys j)) (ys.size - 1))∈i::is:=by
    (refine J hns<|J (numAt_eq _ _) ?_);exact getD_mem (by(refine J (QJ _)<|J QX ?_);exact ai 0x60431c0001087140040185080043 rfl b1 (jI (ai 0x5003001045043040001 rfl hsz)))
   refine pQ this ?_ fun z=>?_
   ·exact q1
   ·exact q2 _ z
  ·have:hM is i∈i::is:=q0.elim (fun q=>List.mem_cons.mpr (.inl q)) fun q=>List.mem_cons.mpr (.inr q);rw [hns] at this;refine an (mem_getD this) fun j hj ej=>?_;rw [List.length_map,Array.length_toList] at hj;(refine aQ ej<|aQ (numAt_eq _ _) ?_);exact b2 j (ai 0x10c6007001007140041185080003 rfl hj (jw _ _))
 exact J hm<|hQ.jk hk (.int _ _) tk
theorem r8(c:aT (I3 g) es kvs)(i:ItemsOf (fun i v=>∃k x,kvs[i]? =some (k,x)/\(intKind prog w).is k v=true) bx kvs.length):IntsAre bx.toList (dq (fun e=>e.1) es):=by
 have hl:bx.toList.length=kvs.length:=J QX<|i.1;have hv:∀(j:Nat) (v:Value),bx.toList[j]? =some v->∃k x,kvs[j]? =some (k,x)/\∃t,v=Value.int k t:=fun j v e=>by refine dy (i.2 j v (by refine aQ (Array.getElem?_toList) ?_;exact e)) fun k x e1 e2=>?_;exact xE (Value.isInt_shape e2) fun t et=>⟨k,x,e1,t,et⟩
 clear i;generalize bx.toList=l at*;clear bx
 induction c generalizing l with
 |nil=>cases l with
  |nil=>exact .nil
  |cons=>exact nomatch hl
 | @cons e p _ _ r t ih=>
  cases l with
  |nil=>exact nomatch hl
  |cons v l=>refine dy (hv 0 v rfl) fun k' x' e1 ψ7=>xE ψ7 fun tk ρ=>J ρ ?_;obtain rfl:=sj e1;obtain z:=ih l (Nat.succ.inj hl) fun j u e=>hv (j+1) u e;obtain⟨a,b⟩:=e;refine xA r fun ρ Y=>?_;subst ρ;exact .cons _ _ z
theorem Dc(G:Gl)(hA:A.handled=none)(e1:σ.H.obj i=some (.dI es ep))(hl:Nat.ble (aq es) 60000=true)(ru:VR σ.g (.ref i) u)(hQ:bM σ σ.H (.fl (dq (fun e=>.int e.1) es)) Q):wpAny M A (PySem.call (.type "list") [u]) Q E σ.s:=by refine bf (σ.dI e1 ru) fun D bn ρ Y hw nd ho a=>J ρ<|bP (fG ho nd a) fun kvs hat Y c=>?_;have lc:=c.length;rw [<-aw es] at lc;refine kdl_call (kdl_dict (dP G hw)) hA hat (dc (by have:=QG hl;exact ai 0x3a9804180040185001080010000105080002 rfl lc this)) fun h' tk bx c' hk hS hi=>hQ.at' hk (bu _) hS tk fun g' e=>lr e ?_;have:=r6 (g:=g') (r8 c hi);rw [dz,dz,List.map_map] at this;exact J (dz _ _)<|this
theorem wV(G:Gl)(hA:A.handled=none)(e1:σ.H.obj i=some (.dI es ep))(hl:Nat.blt (aq es) 60=true)(ru:VR σ.g (.ref i) u)(hQ:bM σ σ.H (.fl (dq .int (c9 u9 (dq (fun e=>e.1) es)))) Q):wpAny M A (PySem.call (.builtin "sorted") [u]) Q E σ.s:=by
 refine bf (σ.dI e1 ru) fun D bn ρ Y hw nd ho a=>J ρ<|bP (fG ho nd a) fun kvs hat Y c=>?_;have lc:=c.length;rw [<-aw es] at lc;have hl:=QG hl;refine call_function_entry kind_sorted plain_sorted entry_sorted (args_sorted1 _) ?_;delta Builtin.«sorted»;refine QC (QD ?_);refine QC (kdu_collect (kdl_dict (dP G hw)) hA hat (dc (ai 0x3c0c6080040185001080010000105080002 rfl lc hl)) fun h' tk bx hk hacc=>?_);have hla:bx.toList.length=kvs.length:=J QX<|hacc.1;refine QC (wpAny_newList ?_ (dc (ai 0x1850010bc0c70800401c60010800100001050c0003 rfl lc hl hla)));have hoL:(h'.push (seqObj "list" bx.toList.toArray 0)).get? h'.objs.size=some (seqObj "list" bx.toList.toArray 0):=Heap.get?_push_size _ rfl;obtain hs':=size_push' ..;refine QC (QE (wpAny_call_entry slot_list_sort ⟨_,hoL,rfl⟩ entry_list_sort (list_sort_tree hoL (r8 c hacc) (ai 0x1850010bc0c70800401c60010800000401050c0043 rfl lc hl hla) fun out ns' b1 b2 b3=>⟨_,rfl,?_⟩) (args_list_sort _)));refine QD ⟨_,rfl,?_⟩;refine xE (sortedHeap_at (out:=out) hoL) fun e he=>?_
 obtain nw:σ.s.heap.get? h'.objs.size=none:=by
  refine iS (σ.s.heap.get? h'.objs.size) (fun q=>?_) fun o q=>?_
  ·rfl
  ·exact absurd (Heap.lt_size (hk _ _ q)) (Nat.lt_irrefl _)
 refine hQ.at' (fun b o hb=>?_) nw he tk fun g' e=>lr e ?_
 ·have lt:=Heap.lt_size (hk b o hb);refine J (sortedHeap_old (QY lt) (J hs'<|Nat.lt_succ_of_lt lt)) ?_;exact Heap.get?_push_of_some _ (hk b o hb)
 ·exact aQ (w6 b2 b3)<|r6 b1
theorem i_{h:Heap}{a:Addr}(q:h.objs.size<=a):h.get? a=none:=by
 refine iS (h.get? a) (fun e=>?_) fun o e=>?_
 ·rfl
 ·exact absurd (Heap.lt_size e) (Nat.not_lt.mpr q)
theorem ya{m:Nat}(g1:σ.s.heap.get? D=some {cls:=.type "list",data:=.seq us m})(sa:StrsAre us.toList ss)(hl:Nat.blt (aq ss) 60=true)(hQ:bM σ σ.H (.fl (dq .txt (c9 ug ss))) Q):wpAny M A (PySem.call (.builtin "sorted") [.ref D]) Q E σ.s:=by have l2:=yx sa;rw [<-aw ss] at l2;obtain hl:=QG hl;exact sorted_strs (by simpa using aU g1) sa (ai 0x3c0c6080040185001080000040105080042 rfl l2 hl) fun out ss' b1 b2 b3=>xE (sortedAll_at σ.s.heap us.toList out) fun e he=>hQ.at' (fun b o=>sortedAll_old) (i_ (Nat.le_succ _)) he σ.s.toks fun g' e=>lr e<|aQ (xk b2 b3)<|zj b1
theorem DI(g1:σ.s.heap.get? D=some {cls:=.type "list",data:=.seq us m})(a:c6 σ.g xs us.toList)(hl:Nat.ble (aq xs) 60000=true)(hQ:bM σ σ.H (.tup xs) Q):wpAny M A (PySem.call (.type "tuple") [.ref D]) Q E σ.s:=by have sz:=fX a;rw [<-aw] at sz;refine call_tuple_list (aU g1) (fun h' g=>?_) (dc (by obtain this:=QG hl;exact ai 0x3a9804180040185001080010000105080002 rfl sz this));exact(hQ.from (σ.jk_le g σ.s.toks)).tup a σ.s.toks
theorem uu(e:Nn x=some d)(r:VR g x u):Reads h u d []/\d.showable=true/\d.hasDict=false/\d.depth=0/\d.shown.length<=10:=by
 refine Or.elim (bY e) (fun ρ=>?_) fun ρ=>?_
 ·refine an ρ fun i e1 e=>?_;rw [cM e1] at r;refine xE (cH r) fun t ρ=>J ρ<|xA (aW e) fun hc e=>bt e ?_;have hc:=of_decide_eq_true hc;refine⟨.int _ _,?_,by simp only[PyData.hasDict],by simp only[PyData.depth],?_⟩
  ·simp only[PyData.showable,decide_eq_true_eq];by_cases z:i.natAbs=0
   ·refine J z ?_;decide
   ·have:i.natAbs.log2 < 64:=(Nat.log2_lt z).mpr (by lia);exact ai 0x40105001040000780105040041 rfl this
  ·simp only[PyData.shown];obtain this:=int_text_length_le10 (by decide) (show Int.natAbs _ < 10 ^ 9 from hc);exact J (PySem.ofString_length _)<|ai 0x4324300500100a0c5040001 rfl this
 ·refine xA ρ fun Y e=>an (ah e) fun b e1 e=>xA (aW e) fun ρ e=>?_;subst ρ;exact bt e<|J ((fN e1 r).2 rfl)<|⟨.none,rfl,by simp only[PyData.hasDict],by simp only[PyData.depth],by simp only[PyData.shown];decide+kernel⟩
theorem sR(e:wM xs=some ds)(a:c6 g xs vs):
  ReadsAll h vs ds []/\PyData.showableAll ds=true/\PyData.hasDictAll ds=false/\PyData.depthAll ds=0/\piled (PyData.shownAll ds)<=12*xs.length:=by
 induction a generalizing ds with
 |nil=>refine bt e ?_;exact⟨.nil,rfl,by simp only[PyData.hasDictAll],by simp only[PyData.depthAll],by simp[PyData.shownAll,piled]⟩
 |cons r t ih=>
  refine an (ah e) fun d e1 e=>an (ah e) fun ds' e2 e=>bt e ?_;obtain⟨a1,a2,a3,a4,a5⟩:=uu e1 r;refine ez (ih e2) fun b1 b2 b3 b4 b5=>⟨.cons a1 b1,by simp only[PyData.showableAll,a2,b2,Bool.and_self],by simp only[PyData.hasDictAll,a3,b3,Bool.or_self],by simp only[PyData.depthAll,a4,b4,Nat.max_self],?_⟩
  simp only[PyData.shownAll,piled_cons,List.length_cons];exact ai 0x700c04600100a0c50010010c70003011820c5000080003 rfl a5 b5
theorem Ib(hA:bZ n A)(e:wM xs=some ds)(hl:Nat.ble (aq xs) 8=true)(ru:VR σ.g (.tup xs) u)(hQ:bM σ σ.H (.txt (PyData.tuple ds).shown) Q):wpAny M A (PySem.call (.builtin "repr") [u]) Q E σ.s:=by
 refine aI (VS.tup ru) fun a vs m ρ ho rr=>J ρ<|ez (sR (h:=σ.s.heap) e rr) fun b1 b2 b3 b4 b5=>?_;rw [<-aw] at b5;obtain hl:=QG hl;obtain rd:Reads σ.s.heap (.ref a) (.tuple ds) []:=.tuple ho rfl rfl b1;obtain hu:=hA.u;refine repr_of_reads' rd (by simpa only[PyData.showable] using b2) (PyData.noDict_hsm (by simpa only[PyData.hasDict] using b3)) hA.g (by simp only[PyData.depth,b4];exact ai 0x1bc0c7064045000001006043043003000140040043 rfl hu) (fun Y Y e=>e) (fun h' u tk hk=>hQ.jk hk (.txt _ _) tk) ?_;simp only[PyData.shown];delta tupleText;refine J (strLen_append _ _)<|J (strLen_append _ _) ?_;obtain e1:((("(":String):Str)).length=1:=rfl
 have e3:(((if(PyData.shownAll ds).length == 1 then ",)" else ")":String):Str)).length<=2:=by split<;>decide
 refine J e1<|J sizeLine_eq ?_;by_cases h:PyData.shownAll ds= []
 ·rw [h] at e3 ⊢;have:(Str.join (", ":String) []).length=0:=rfl;exact ai 0x3140042083180040040000004185043000080002 rfl e3 this
 ·obtain this:=join_length_add _ h;exact ai 0x1c20c50000420831800402032003002003011c0040040000004185043000100004 rfl b5 hl e3 this
end
section
set_option maxRecDepth 100000
open PySem PySem.Calls PyProof.Rows PySem.W PySem.SeqAt
open PySem.MeetsSeq PySem.AutoSeq1
theorem tF{es:List (Int×V)}(nd:(es.map (·.1)).Nodup){i:Nat}{k:Int}{v:V}(hi:es[i]? =some (k,v)):aL iE (es.take i) k=none/\aP iE k v (es.take i)=es.take (i+1):=by
 induction es generalizing i with
 |nil=>exact nn hi
 |cons p r ih=>
  obtain⟨a,b⟩:=p;rw [List.map_cons,List.nodup_cons] at nd
  cases i with
  |zero=>refine xA (pj hi) fun ρ0 ρ1=>?_;exact aQ ρ0<|aQ ρ1<|⟨rfl,rfl⟩
  |succ i=>refine xA (ih nd.2 hi) fun h1 h2=>?_;have c:a≠k:=fun c=>nd.1 (c▸List.mem_map.mpr ⟨_,List.mem_of_getElem? hi,rfl⟩);refine J List.take_succ_cons<|J List.take_succ_cons<|J (lW d7 c _ _)<|J (rR d7 c _ _ _)<|J h1<|J h2 ?_;exact⟨rfl,rfl⟩
theorem D4(G:Gl){es:List (Int×V)}{ep i:Nat}(e1:σ.H.obj i=some (.dI es ep))(hl:Nat.ble (aq es) 8=true)(ru:VR σ.g (.ref i) u)(hQ:bM σ (σ.H.new (.dI es (aq es))) (.ref σ.H.next) Q):wpAny M A (PySem.call (.type "dict") [u]) Q E σ.s:=by
 refine bf (σ.dI e1 ru) fun D bn ρ Y hw nd g1 a1=>J ρ ?_;have la:=tX a1;obtain hl:=QG hl;rw [Array.length_toList] at la;refine callType_codes (Q₁:=fun obj s₁=>obj=.ref σ.s.heap.objs.size/\s₁={σ.s with heap:=σ.s.heap.push {cls:=.type "dict",data:=.dict #[]}}) F.kt_called_dict (F.kt_typeCall_dict_1 _) F.entry_dict_init (kt_code_dict_new _ ⟨rfl,rfl⟩) ?_;rintro obj s₁ ⟨rfl,rfl⟩;have hN:(σ.s.heap.push {cls:=.type "dict",data:=.dict #[]}).get? σ.s.heap.objs.size=some {cls:=.type "dict",data:=.dict #[] 0}:=Heap.get?_push_size _ rfl;have gP:=fP σ.s.heap {cls:=.type "dict",data:=.dict #[]};have hT:({σ.s with heap:=σ.s.heap.push {cls:=.type "dict",data:=.dict #[]}}:Shared).TypeIs (.ref σ.s.heap.objs.size) "dict":=⟨_,hN,rfl⟩
 have g1':=gP _ _ g1;have hT':({σ.s with heap:=σ.s.heap.push {cls:=.type "dict",data:=.dict #[]}}:Shared).TypeIs (.ref D) "dict":=⟨_,g1',rfl⟩
 have hDN:=QY (Heap.lt_size g1);refine⟨hT,F.args_dict_init_2 _ _,?_⟩;delta Builtin.«dict.__init__»;refine QC ?_;delta Builtin.Dict.selfAndRest;refine QC (wpAny_notOrdered_dict hT ?_);refine QD<|(?_ :wpAny _ _ (Builtin.Dict.updateFrom "dict.__init__" σ.s.heap.objs.size (.ref D) [] .none) _ _ _);delta Builtin.Dict.updateFrom;refine QC (wpAny_typeOf hT' ?_);refine J (QN (by decide))<|QC ?_;delta Builtin.Dict.merge;refine QC ?_;delta Builtin.Dict.readDirectly;refine QC (wpAny_isInstance hT' isSubtype_dict_dict ?_);simp only[Bool.not_true,Bool.false_eq_true,if_false];refine QC (wpAny_specialOf hT' F.slot_dict_iter.lookup (QD ?_));simp only[beq_self_eq_true,if_true];refine QC (QD ?_);delta Builtin.Dict.mergeDict;refine J (QN (by simpa using hDN.symm)) ?_;delta Builtin.Dict.showsAll;refine J (QN (by exact J (dP G hw)<|Bool.false_ne_true)) ?_;refine QC (QD ?_);refine QC (wpAny_dictEntries g1' rfl ?_);obtain few:(decide (bn.size<=8) && bn.all fun e=>(keyPart e.key).isSome)=true:=by refine J (Bool.and_eq_true _ _)<|⟨by simp;exact ai 0x2031800401850010880c5080002 rfl la hl,?_⟩;refine aQ Array.all_toList<|jj List.all_eq_true ?_;intro e he;refine an (mY a1 e he) fun k hk' Y=>xE (Value.isInt_shape hk') fun t et=>J et ?_;rfl
 simp only[few,Bool.not_true,Bool.false_eq_true,if_false];refine QC (wpAny_dictEpoch g1' rfl ?_);refine QC (wpAny_dictEntries g1' rfl ?_);refine QC<|J (Std.Legacy.Range.forIn_eq_forIn_range' _ _ _) ?_;simp only[Std.Legacy.Range.size,Nat.sub_zero,Nat.add_sub_cancel,Nat.div_one]
 refine wpAny_forIn_list _
  (fun eI Y s'=>∃h' i bL,s'={σ.s with heap:=h'}/\eI=List.range' i (bn.size - i)/\i<=bn.size/\Heap.SameBut σ.s.heap.objs.size (σ.s.heap.push {cls:=.type "dict",data:=.dict #[]}) h'/\
   h'.get? σ.s.heap.objs.size=some {cls:=.type "dict",data:=.dict bL i}/\aT (ER kO σ.g) (es.take i) bL.toList)
  _ ?_ ?_ _ _ ⟨_,0,#[],rfl,by simp,Nat.zero_le _,Heap.SameBut.refl _ _,hN,.nil⟩
 ·rintro x eI b s' ⟨h',i,bL,rfl,hr,hi,hs',hN',a'⟩
  have hlt:i < bn.size:=by
   refine Or.elim (Nat.lt_or_ge i bn.size) (fun h=>?_) fun h=>?_
   ·exact h
   ·rw [Nat.sub_eq_zero_of_le h] at hr;simp at hr
  obtain⟨rfl,hrest⟩:x=i/\eI=List.range' (i+1) (bn.size - (i+1)):=by
   have e:bn.size - i=(bn.size - (i+1))+1:=QF (ai 0x1c81400010810c80060070010010c6005080004 rfl (jw _ _) (jI (ai 0x6140041185040002 rfl hlt))) (ai 0x1c10c8005000042206007001006043140080004 rfl (jw _ _) (jI (ai 0x185001046043140040002 rfl hlt)));rw [e,List.range'_succ] at hr;injection hr with h1 h2
   exact⟨h1,h2⟩
  have gD:=(hs'.2 D hDN).trans g1';refine QC (wpAny_dictEntries gD rfl ?_);refine J (Array.getElem?_eq_getElem hlt) ?_;obtain⟨⟨ki,e2⟩,ee⟩:∃e,es[x]? =some e:=⟨_,List.getElem?_eq_getElem (by rw [aw] at la;exact ai 0x1c50010461c0042185080043 rfl la hlt)⟩
  refine an (a1.get ee) fun d ed rd=>?_;obtain ed':bn[x]=d:=by rw [Array.getElem?_toList,Array.getElem?_eq_getElem hlt] at ed;exact Option.some.inj ed
  refine(?_ :wpAny _ _ (holding [bn[x].key,bn[x].val] (dictSetHashed σ.s.heap.objs.size bn[x].key bn[x].hash bn[x].val) >>= _) _ _ _);refine J ed'<|J rd.hash ?_;have gr:Grows σ.s.heap h':=fun b o e=>(hs'.2 b (QY (Heap.lt_size e))).trans (gP b o e);refine xA (tF nd ee) fun fresh pt=>QC (QE (kX (σ:=σ.jk gr σ.s.toks) (v:=e2) d7 hN' a' rd.key (QH (by(refine J (aw _)<|J List.length_take ?_);omega)) rd.val fun h2 des2 sb hg2 al2=>?_));dsimp only at sb hg2 al2;obtain hg2:=fresh▸hg2;obtain al2:=pt▸al2;obtain gD2:=(sb.2 D hDN).trans gD;refine QC (wpAny_dictEpoch gD2 rfl ?_);exact J (QN (by simp))<|QD ⟨h2,x+1,des2,rfl,hrest,hlt,hs'.trans sb,hg2,al2⟩
 ·rintro b s' ⟨h',i,bL,rfl,hr,hi,hs',hN',a'⟩
  obtain hin:i=bn.size:=by
   refine Or.elim (Nat.lt_or_ge i bn.size) (fun h=>?_) fun h=>?_
   ·have e:bn.size - i=(bn.size - (i+1))+1:=by exact QF (ai 0x1c81400010810c80060070010010c6005080004 rfl (jw _ _) (jI (ai 0x6140041185040002 rfl h))) (ai 0x1c10c8005000042206007001006043140080004 rfl (jw _ _) (jI (ai 0x185001046043140040002 rfl h)))
    rw [e,List.range'_succ] at hr;exact nomatch hr
   ·exact QF hi h
  subst hin;rw [show bn.size=es.length from la.trans (aw es),List.take_length] at a';rw [la] at hN';refine QD<|(?_ :wpAny _ _ (Builtin.Dict.addKeywords σ.s.heap.objs.size [] >>= _) _ _ _);refine QC (QD (QD ⟨rfl,?_⟩));obtain gr:Grows σ.s.heap h':=fun b o e=>(hs'.2 b (QY (Heap.lt_size e))).trans (gP b o e);exact hQ.new' gr (bu _) σ.s.toks (J hN'<|fun q=>nn q.symm) fun g' l=>⟨rfl,nd,bL,hN',a'.mono fun Y Y z=>z.mono l⟩
theorem AT(G:Gl)(hA:bZ n A)(e:eV f x σ.H k=some r)(rx:VR σ.g x u)(hQ:Fin σ k r Q):wpAny M A (PySem.call (kM f) [u]) Q E σ.s:=by
 obtain sz:∀{xs:List V} {vs:Array Value},c6 σ.g xs vs.toList->vs.size=aq xs:=fun a=>by(exact J (fX a)<|J (aw _) rfl)
 rcases f with _|_|_|_|_|_|_|_|_|f
 ·refine Or.elim (gL e) (fun ρ=>?_) fun e=>?_
  ·obtain⟨i,rs,c,rfl,e1,e⟩:=ρ;refine xA (aW e) fun h1 e=>bI (σ.list e1 rx) fun D vs m ρ3 Y Y ρ6 g1 a1=>J ρ3 ?_;subst ρ6;exact E2 g1 (by(exact J (fX a1)<|J QL rfl)) h1 (hQ.toV e)
  ·exact an (ah e) fun xs e1 e=>xA (aW e) fun h1 e=>aI (VS.lst e1 rx) fun D vs m ρ g1 a1=>J ρ<|E2 g1 (sz a1) h1 (hQ.toV e)
 ·refine an (ah e) fun i e1 e=>xA (aW e) fun hl e=>?_;rw [cM e1] at rx;exact xE (cH rx) fun t ρ=>J ρ<|call_range_1 (yP (hQ.toV e) _)
 ·refine an (ah e) fun xs e1 e=>an (ah e) fun is e2 e=>xA (aW e) fun h1 e=>aI (VS.lst e1 rx) fun D vs m ρ g1 a1=>J ρ ?_
  cases is with
  |nil=>exact nn e
  |cons i is=>exact IR hA.h g1 (z_ e2 a1) (hQ.toV e)
 ·refine Or.elim (bY e) (fun ρ=>?_) fun ρ=>?_
  ·refine an ρ fun i e1 e=>?_;rw [cM e1] at rx;exact xE (cH rx) fun t ρ=>J ρ<|call_int_int ((hQ.toV e).at (.int _ _) σ.s.toks)
  ·refine xA ρ fun Y e=>an (ah e) fun b e1 e=>?_;rw [vx e1] at rx;refine aQ (Eq.symm (qc rx))<|call_int_bool ((hQ.toV e).at (by cases b<;>exact .int _ _) _)
 ·refine Or.elim (ff e) (fun ρ=>?_) fun e=>?_
  ·obtain⟨i,es,ep,rfl,e1,e⟩:=ρ;exact xA (aW e) fun h1 e=>Dc G hA.h e1 h1 rx (hQ.toV e)
  ·exact nn e
 ·refine Or.elim (ff e) (fun ρ=>?_) fun e=>?_
  ·obtain⟨i,es,ep,rfl,e1,e⟩:=ρ;refine xA (aW e) fun h1 e=>?_;rw [fA] at e;exact D4 G e1 h1 rx (hQ.toV e)
  ·exact nn e
 ·exact an (ah e) fun xs e1 e=>xA (aW e) fun h1 e=>aI (VS.lst e1 rx) fun D vs m ρ g1 a1=>J ρ<|DI g1 a1 h1 (hQ.toV e)
 ·refine Or.elim (ff e) (fun ρ=>?_) fun e=>?_
  ·obtain⟨i,es,ep,rfl,e1,e⟩:=ρ;exact xA (aW e) fun h1 e=>wV G hA.h e1 h1 rx (hQ.toV e)
  ·exact an (ah e) fun xs e1 e=>an (ah e) fun ss e2 e=>xA (aW e) fun h1 e=>aI (VS.lst e1 rx) fun D vs m ρ g1 a1=>J ρ<|ya g1 (BA e2 a1) h1 (hQ.toV e)
 ·refine an (ah e) fun xs e1 e=>xA (aW e) fun h1 e=>an (ah e) fun ds e2 e=>?_;rw [iH e1] at rx;exact Ib hA e2 h1 rx (hQ.toV e)
 ·exact nn e
theorem BQ(hA:bZ n A)(e:Ed f x y σ.H k=some r)(rx:VR σ.g x u)(ry:VR σ.g y z)(hQ:Fin σ k r Q):wpAny M A (PySem.call (kM f) [u,z]) Q E σ.s:=by
 rcases f with _|_|_|f
 ·exact nn e
 ·refine eO (qO e rx ry) fun i j t t' ρ4 ρ5 e=>J ρ4 ?_;subst ρ5;exact xA (aW e) fun h1 e=>call_range_2 (yP (hQ.toV e) _)
 ·refine eO (qO e rx ry) fun i j t t' ρ4 ρ5 e=>J ρ4 ?_;subst ρ5;refine max_two_ints hA.h fun h' tk g=>(hQ.toV e).jk g ?_ tk;by_cases c:i < j
  ·(refine J (QO c)<|J (QM (show j > i from c)) ?_);exact .int _ _
  ·(refine J (QP c)<|J (QN (show¬j > i from c)) ?_);exact .int _ _
 ·exact nn e
theorem Cu(G:Gl)(hA:bZ n A)(e:gT f xs σ.H k=some r)(a:c6 σ.g xs vs)(hQ:Fin σ k r Q):wpAny M A (PySem.call (kM f) vs) Q E σ.s:=by
 cases a with
 |nil=>exact nn e
 |cons r1 a=>
  cases a with
  |nil=>exact AT G hA e r1 hQ
  |cons r2 a=>
   cases a with
   |nil=>exact BQ hA e r1 r2 hQ
   |cons r3 a=>exact nn e
section
theorem zV(l:Addr)(items:Array Value)(m:Nat)(x:Value)(e:Value->Bool)(j:Nat)(hj:j < items.size)(hit:e items[j]=true)(hs1:items.size<=sizeLine)(k:Nat):
  ∀i:Nat,j - i=k->i<=j->(∀p (hp:p < items.size),i<=p->p < j->e items[p]=false)->Meets (Builtin.«list.remove.loop» ⟨[.ref l,x,rawInt i],[]⟩)
   (fun A R s=>s.heap.get? l=some {cls:=.type "list",dict:=none,data:=.seq items m,slots:= #[]}/\(∀y,y∈items->EqAt A.in1 s y x (e y))/\R (.ok (.ret .none)) {s with heap:=s.heap.update l (Obj.mapSeq fun xs=>xs.eraseIdxIfInBounds j)}):=by
 induction k with
 |zero=>
  intro i hk hij hno prog w A R s h;obtain⟨hp,g,d,tk,os⟩:=s;refine fp h fun hl he h=>?_;obtain hij':i=j:=QF (ai 0x6140040185040002 rfl hij) (ai 0x61c01400400031c0042185080003 rfl hk (jw _ _));subst hij';wp_walk using wpAny_loadPart' hl;have hi:items[((i:Nat):Int).toNat]? =some items[i]:=by simp[hj]
  refine J hi<|QC (he _ (Array.getElem_mem hj) prog w _ _ ?_);refine J hit ?_;obtain hz':=QQ (size_erased items _) (QU hs1);wp_walk using(wpAny_updateSeq hl rfl (hz:=hs1) (_hz':=hz')),wpAny_loadPart' hl;simpa using h
 |succ k ih=>
  intro i hk hij hno prog w A R s h;obtain⟨hp,g,d,tk,os⟩:=s;refine fp h fun hl he h=>?_;have hlt:i < items.size:=ai 0x1c50010061c0041185080043 rfl hj hij;wp_walk using wpAny_loadPart' hl;have hi:items[((i:Nat):Int).toNat]? =some items[i]:=by simp[hlt]
  have hc:((i:Int)+1)=((i+1:Nat):Int):=by push_cast;rfl
  refine J hi<|QC (he _ (Array.getElem_mem hlt) prog w _ _ ?_);refine J (hno i hlt (QR _) (ai 0x61470000420432001c0045185080044 rfl hk (jI (ai 0x6140040185040002 rfl hij)))) ?_;wp_walk
  refine J hc<|⟨plainId_quiet plain_remove_loop _,codeAny_builtin entry_remove_loop (by
   exact J (Around.under_plainId plain_remove_loop _)<|ih (i+1) (by omega) (ai 0x1851c00010810c8007001146043140080004 rfl hk (jI (ai 0x6140040185040002 rfl hij))) (fun m hm h1 h2=>hno m hm (ai 0x1810c5000040185040002 rfl h1) h2) prog w A R _ ⟨hl,he,h⟩)⟩
theorem Gj(l:Addr)(items:Array Value)(m:Nat)(x:Value)(e:Value->Bool)(j:Nat)(hj:j < items.size)(hit:e items[j]=true)(hno:∀p (hp:p < items.size),p < j->e items[p]=false)(hs1:items.size<=sizeLine):
  Meets (Builtin.«list.remove» ⟨[.ref l,x],[]⟩)
   (fun A R s=>s.heap.get? l=some {cls:=.type "list",dict:=none,data:=.seq items m,slots:= #[]}/\(∀y,y∈items->EqAt A.in1 s y x (e y))/\R (.ok (.ret .none)) {s with heap:=s.heap.update l (Obj.mapSeq fun xs=>xs.eraseIdxIfInBounds j)}):=by
 intro prog w A R s h;obtain⟨hp,g,d,tk,os⟩:=s;refine fp h fun hl he h=>?_;wp_walk using wpAny_loadPart' hl
 exact⟨plainId_quiet plain_remove_loop _,codeAny_builtin entry_remove_loop (by
  exact J (Around.under_plainId plain_remove_loop _)<|zV l items m x e j hj hit hs1 _ 0 rfl (Nat.zero_le _) (fun m hm Y h2=>hno m hm h2) prog w A R _ ⟨hl,he,h⟩)⟩
variable{σ τ:VS}{xs:List V}
theorem Gd(hu:A.units < cLine)(a:c6 σ.g ys us)(rx:VR σ.g x xv)(e:Ee x ys=some o):(∀u∈us,EqAt A σ.s u xv (Ce σ.s.heap u xv))/\
  ∀i,o=some i->(∃u,us[i]? =some u/\Ce σ.s.heap u xv=true)/\∀p u,p < i->us[p]? =some u->Ce σ.s.heap u xv=false:=by
 induction a generalizing o with
 |nil=>refine bt e ?_;exact⟨fun u m=>(nomatch m),fun i q=>nn q⟩
 | @cons y u ys us r t ih=>
  refine an (ah e) fun c e1 e=>an (ah e) fun q e2 e=>xA (ih e2) fun h1 h2=>fp (mv hu e1 r rx) fun z1 Y z3=>⟨fun v m=>?_,?_⟩
  ·refine pQ m ?_ fun m=>?_
   ·exact aQ z1<|z3
   ·exact h1 v m
  ·cases c with
   |true=>refine bt e ?_;rintro i ⟨⟩;exact⟨⟨u,rfl,z1.symm⟩,fun p u l=>absurd l (Nat.not_lt_zero p)⟩
   |false=>
    cases q with
    |none=>refine bt e ?_;exact fun i q=>nn q
    |some j=>
     refine bt e ?_;rintro i ⟨⟩;refine xA (h2 j rfl) fun q1 q2=>⟨q1,fun p v l ev=>?_⟩
     cases p with
     |zero=>refine bt ev ?_;exact z1.symm
     |succ p=>exact q2 p v (Nat.lt_of_succ_lt_succ l) ev
theorem Aj(e1:σ.H.obj i=some (.list rs c))(ra:VR σ.g (.ref i) av)(rx:VR σ.g x xv)(hl:Nat.blt c 60000=true)(hQ:bM σ (σ.H.set i (.list (x::rs) (Nat.succ c))) .none Q):wpAny M A (PySem.call (.builtin "list.append") [av,xv]) Q E σ.s:=by
 refine bI (σ.list e1 ra) fun D us m ρ3 hm hw ρ6 g1 a1=>J ρ3 ?_;subst ρ6;have sz:=fX a1;rw [List.length_reverse] at sz;obtain hl:=QG hl;refine append_at g1 (fun h' hs ho'=>?_) (dc (ai 0xea60106080040185001080010000105080002 rfl sz hl))
 exact hQ (σ.upd i (.list (x::rs) (Nat.succ rs.length)) D σ.s.toks hw (fun b n Y=>hs.2 b n) (J ho'<|fun q=>nn q.symm) (.inr ⟨D,D,hm,hw,hw,rfl,rfl,_,_,ho',by
  (refine J List.reverse_cons<|J Array.toList_push ?_);exact a1.app (.cons rx .nil)⟩)) _ σ.upd_le rfl .none
theorem zX (hu:A.units+1 < cLine) (e1:σ.H.obj l=some (.list rs c)) (ra:VR σ.g (.ref l) av) (rx:VR σ.g x xv) (hl:Nat.ble c 60000=true) (e:Ee x (bC rs)=some (some i)) (hQ:bM σ (σ.H.set l (.list (bC (wP (bC rs) i)) (Nat.pred c))) .none Q):wpAny M A (PySem.call (.builtin "list.remove") [av,xv]) Q E σ.s:=by
 refine bI (σ.list e1 ra) fun D us m ρ3 hm hw ρ6 g1 a1=>J ρ3 ?_;subst ρ6;have sz:=fX a1;rw [List.length_reverse] at sz;obtain hl:=QG hl;rw [bq] at e;refine xA (Gd (A:=A.in1) hu a1 rx e) fun h1 h2=>xA (h2 i rfl) fun ρ hb=>an ρ fun u eu hp=>?_;have hlt:i < us.size:=by exact aQ QX<|(List.getElem?_eq_some_iff.mp eu).1
 have at':∀(p:Nat) (hp:p < us.size),us.toList[p]? =some us[p]:=fun p hp=>mi hp
 refine call_meets PySem.F.slot_list_remove ⟨_,g1,rfl⟩ PySem.F.entry_list_remove (PySem.F.args_list_remove_2 _ _)
  (Gj D us m xv (fun u=>Ce σ.s.heap u xv) i hlt (by rw [at' i hlt] at eu;obtain rfl:=sj eu;exact hp) (fun p hp' hlt'=>hb p _ hlt' (at' p hp')) (dc (ai 0x3a9804180040185001080010000105080002 rfl sz hl))) ⟨g1,fun u hu'=>h1 u (Array.mem_toList_iff.mpr hu'),?_⟩
 obtain hz:(us.eraseIdxIfInBounds i).size≠us.size:=by(refine aQ QX<|J Array.toList_eraseIdxIfInBounds<|J List.length_eraseIdx<|J QX ?_);exact J (QM hlt)<|fun e=>ai 0x61400451810c5000042003003080182 rfl (jI (ai 0x146001045043040002 rfl hlt)) e
 have D':(σ.s.heap.update D (Obj.mapSeq fun xs=>xs.eraseIdxIfInBounds i)).get? D=some {cls:=.type "list",data:=.seq (us.eraseIdxIfInBounds i) (m+1)}:=by refine J (Heap.get?_update_self _ g1 rfl) ?_;simp[Obj.mapSeq,hz]
 refine hQ (σ.upd l (.list (bC (wP (bC rs) i)) (Nat.pred rs.length)) D σ.s.toks hw (fun b n Y=>(Heap.SameBut.update ..).2 b n) (J D'<|fun q=>nn q.symm) (.inr ⟨D,D,hm,hw,hw,rfl,?_,_,_,D',?_⟩)) _ σ.upd_le rfl .none
 ·(refine J (bq _)<|J (lQ _ _)<|J (bq _)<|J QL<|J List.length_eraseIdx<|J QL<|J (QM (ai 0x1c50010461c0042185080043 rfl sz hlt)) ?_);rfl
 ·refine J (bq _)<|J (lQ _ _)<|J (bq _)<|J (List.reverse_reverse _)<|J Array.toList_eraseIdxIfInBounds ?_;exact a1.eraseIdx i
theorem z8(G:Gl)(e1:σ.H.obj i=some (.dI es ep))(ra:VR σ.g (.ref i) av)(rx:VR σ.g (.int j) xv)(hl:Nat.ble (aq es) 60000=true)(hs:∀v,aL iE es j=some v->bM σ (σ.H.set i (.dI (aD iE j es) (Nat.succ ep))) v Q):
  (aL iE es j≠none->wpAny M A (PySem.call (.builtin "dict.pop") [av,xv]) Q E σ.s)/\∀{d dv},VR σ.g d dv->(aL iE es j=none->bM σ σ.H d Q)->wpAny M A (PySem.call (.builtin "dict.pop") [av,xv,dv]) Q E σ.s:=by
 refine bf (σ.dI e1 ra) fun D bn ρ hm hw nd ho a=>J ρ<|xE (cH rx) fun t ρ=>?_;subst ρ;have hT:σ.s.TypeIs (.ref D) "dict":=⟨_,ho,rfl⟩
 have fin:∀v (e:DictEntry) h' bL,aL iE es j=some v->VR σ.g v e.val->Heap.SameBut D σ.s.heap h'->h'.get? D=some {cls:=.type "dict",data:=.dict bL (ep+1)}->aT (ER kO σ.g) (aD iE j es) bL.toList->Q e.val {σ.s with heap:=h',toks:=σ.s.toks+1}:=fun v e h' bL e0 rv sb hc a'=>
  hs v e0 (σ.upd i (.dI (aD iE j es) (Nat.succ ep)) D _ hw (fun b n Y=>sb.2 b n) (J hc<|fun q=>nn q.symm) (.inr ⟨D,D,hm,hw,hw,rfl,(Eu nd).1,bL,hc,a'⟩)) _ σ.upd_le rfl rv
 constructor
 ·refine fun hn=>wpAny_call_entry PySem.F.slot_dict_pop hT PySem.F.entry_dict_pop ?_ (PySem.F.args_dict_pop_2 _ _);delta Builtin.«dict.pop»;refine QC ?_;delta Builtin.Dict.keyAndDefault;refine QC (wpAny_notOrdered_dict hT ?_);refine QD ?_;simp only[show(keyPart (.int j t)).isSome=true from rfl,if_true];refine QC (QD ?_);simp only[Bool.false_eq_true,if_false];refine QC (vy d7 ho a (uI j t) hl (fun q=>absurd q hn) fun v e h' bL e0 rv sb hc a'=>?_);simp only[Option.isNone_some,Bool.false_eq_true,if_false];exact QC (wpAny_letGo (QD ⟨e.val,rfl,fin v e h' bL e0 rv sb hc a'⟩))
 ·refine fun{d dv} rd hd=>wpAny_call_entry PySem.F.slot_dict_pop hT PySem.F.entry_dict_pop ?_ (PySem.F.args_dict_pop_3 _ _ _);delta Builtin.«dict.pop»;refine QC ?_;delta Builtin.Dict.keyAndDefault;refine QC (wpAny_notOrdered_dict hT ?_);refine QD ?_;simp only[show(keyPart (.int j t)).isSome=true from rfl,if_true];refine QC (QD ?_);simp only[Bool.false_eq_true,if_false];refine QC (vy d7 ho a (uI j t) hl (fun q=>?_) fun v e h' bL e0 rv sb hc a'=>?_)
  ·simp only[Option.isNone_none,if_true];refine QC (wpAny_missedRemoval_other (dP G hw) ?_);exact QC (wpAny_rule (QD ⟨dv,rfl,(hd q).at rd _⟩))
  ·simp only[Option.isNone_some,Bool.false_eq_true,if_false];exact QC (wpAny_letGo (QD ⟨e.val,rfl,fin v e h' bL e0 rv sb hc a'⟩))
theorem By(e:yO xs=some ns)(a:c6 g xs vs):∃l:List (Str×Tok),vs=strValues l/\(l.map (·.1.length)).sum<=rI ns/\l.length=aq ns:=by
 induction a generalizing ns with
 |nil=>refine bt e ?_;exact⟨[],rfl,Nat.le_refl _,rfl⟩
 |cons r t ih=>refine an (ah e) fun i e1 e=>an (ah e) fun js e2 e=>bt e<|bP (ih e2) fun l ρ b c=>J ρ<|dy (qU e1 r) fun s tk ρ hl=>?_;subst ρ;refine⟨(s,tk)::l,rfl,?_,congrArg Nat.succ c⟩;refine J QV<|J List.sum_cons ?_;exact Nat.add_le_add hl b
theorem Fv(g1:σ.s.heap.get? D=some {cls:=.type "list",data:=.seq us m})(a1:c6 σ.g xs us.toList)(e:yO xs=some ns)(hs:Nat.blt i (2 ^ 800)=true)(hl:Nat.ble (Nat.add (rI ns) (Nat.mul 100 (aq ns))) 60000=true)(ra:VR σ.g (.lit i) av)(hQ:bM σ σ.H (.msg (Nat.add (rI ns) (Nat.mul 100 (aq ns)))) Q):
  wpAny M A (PySem.call (.builtin "str.join") [av,.ref D]) Q E σ.s:=by
 refine xE (dh ra) fun t ρ=>J ρ<|bP (By e a1) fun l el b c=>?_;obtain sh:=mX hs;have hl:=QG hl;have tot:((l.map (·.1)).map (·.length)).sum+(l.map (·.1)).length*(am i).length<=rI ns+100*aq ns:=by refine J QZ<|J (QJ _)<|J c ?_;have h2:aq ns*(am i).length<=aq ns*100:=Nat.mul_le_mul_left _ sh;have h3:(List.map ((fun x:Str=>x.length)∘fun x:Str×Tok=>x.fst) l).sum<=rI ns:=b;lia
 have fit:Builtin.Str.tooLong ((l.map (·.1)).toArray.foldl (· + ·.length+(am i).length) 0)=false:=by refine J (StrLaws.joinTotal _ _) ?_;delta Builtin.Str.tooLong;refine jj decide_eq_false_iff_not<|J sizeLine_eq ?_;exact ai 0x2019011c01850000400003a98042019011c0001006140040000004080104 rfl hl tot
 refine call_meets PySem.F.slot_str_join rfl PySem.F.entry_str_join (PySem.F.args_str_join_2 _ _) (meets_str_join_list (am i) t D l fit) ⟨?_,?_⟩
 ·(refine aQ el<|J Array.toArray_toList ?_);exact aU g1
 ·refine post_join l ⟨joinFit_length fit,fun t' k=>hQ.at (.msg _ _ _ ?_ (dc (show rI ns+100*aq ns<=65536 by exact ai 0xea60106064045000040000400004181901140040002 rfl hl))) k⟩;delta Txt.join;exact J (StrLaws.glued_eq_join _ _)<|QQ (StrLaws.join_length_le _ _) tot
noncomputable def Be:Nat->String
 |0=>"list.append"|1=>"list.remove"|2=>"dict.get"|3=>"dict.pop"|_=>"str.join"
theorem Af(G:Gl)(hA:bZ n A)(e:IQ f x xs σ.H k=some r)(ra:VR σ.g x av)(a:c6 σ.g xs vs)(hQ:Fin σ k r Q):wpAny M A (PySem.call (.builtin (Be f)) (av::vs)) Q E σ.s:=by
 have get:∀{d:V} {o:Option V},k (@Option.rec V (fun Y=>V) d (fun v=>v) o) σ.H=some r->∀val tk,VR σ.g (@Option.rec V (fun Y=>V) d (fun v=>v) o) val->Q val {σ.s with toks:=tk}:=fun e val tk rv=>(hQ.toV e).at rv tk
 cases a with
 |nil=>exact nn e
 | @cons y _ _ _ r1 a=>
  cases a with
  |nil=>
   rcases f with _|_|_|_|_|f
   ·refine Or.elim (gL e) (fun ρ=>?_) fun e=>?_
    ·obtain⟨i,rs,c,rfl,e1,e⟩:=ρ;exact xA (aW e) fun h1 e=>Aj e1 ra r1 h1 (hQ.toV e)
    ·exact nn e
   ·refine Or.elim (gL e) (fun ρ=>?_) fun e=>?_
    ·obtain⟨i,rs,c,rfl,e1,e⟩:=ρ;refine xA (aW e) fun h1 e=>an (ah e) fun o e2 e=>an (ah e) fun i ρ e=>?_;subst ρ;exact zX (yB hA) e1 ra r1 h1 e2 (hQ.toV e)
    ·exact nn e
   ·exact an (ah e) fun o e1 e=>(Et (v:=.none) G e1 ra r1).1 (get e)
   ·refine Or.elim (ff e) (fun ρ=>?_) fun e=>?_
    ·obtain⟨i,es,ep,rfl,e1,e⟩:=ρ;refine an (ah e) fun j e2 e=>an (ah e) fun v e3 e=>xA (aW e) fun h1 e=>?_;rw [cM e2] at r1;exact(z8 G e1 ra r1 h1 fun v' q=>by rw [e3] at q;exact bt q<|hQ.toV e).1 (J e3<|fun q=>nn q.symm)
    ·exact nn e
   ·refine an (ah e) fun i e1 e=>xA (aW e) fun h0 e=>an (ah e) fun ys e2 e=>an (ah e) fun ns e3 e=>xA (aW e) fun h1 e=>?_;rw [iy e1] at ra;exact aI (VS.lst e2 r1) fun D us m ρ g1 a1=>J ρ<|Fv g1 a1 e3 h0 h1 ra (hQ.toV e)
   ·exact nn e
  | @cons d _ _ _ r2 a=>
   cases a with
   |nil=>
    rcases f with _|_|_|_|f
    ·exact nn e
    ·exact nn e
    ·exact an (ah e) fun o e1 e=>(Et G e1 ra r1).2 _ r2 (get e)
    ·refine Or.elim (ff e) (fun ρ=>?_) fun e=>?_
     ·obtain⟨i,es,ep,rfl,e1,e⟩:=ρ;refine an (ah e) fun j e2 e=>xA (aW e) fun h1 e=>?_;obtain r1:=(cM e2)▸r1;refine Or.elim (bY e) (fun ρ=>?_) fun ρ=>?_
      ·obtain⟨v,e3,e⟩:=ρ;exact(z8 G e1 ra r1 h1 fun v' q=>by rw [e3] at q;exact bt q<|hQ.toV e).2 r2 fun q=>by rw [e3] at q;exact nn q.symm
      ·obtain⟨e3,e⟩:=ρ;exact(z8 G e1 ra r1 h1 fun v' q=>by rw [e3] at q;exact nn q).2 r2 fun q=>hQ.toV e
     ·exact nn e
    ·exact nn e
   |cons r3 a=>exact nn e
theorem DJ{z:Str}(hz:i5 z=true)(e:gJ I0 (cS z)=some f):f=0/\z="append"\/f=1/\z="remove"\/f=2/\z="get"\/f=3/\z="pop"\/f=4/\z="join":=by
 have m:=mM natE e;have go:∀{a:Str},i5 a=true->cS z=cS a->z=a:=fun ha q=>jH hz ha q;simp only[I0,List.mem_cons,Prod.mk.injEq,List.not_mem_nil,or_false] at m;refine Or.elim m (fun ρ=>?_) fun ρ=>Or.elim ρ (fun ρ=>?_) fun ρ=>Or.elim ρ (fun ρ=>?_) fun ρ=>Or.elim ρ (fun ρ=>?_) fun ρ=>?_
 ·exact xA ρ fun q ρ1=>aQ ρ1<| .inl ⟨rfl,go (by decide+kernel) (q.trans (by decide+kernel))⟩
 ·exact xA ρ fun q ρ1=>aQ ρ1<| .inr (.inl ⟨rfl,go (by decide+kernel) (q.trans (by decide+kernel))⟩)
 ·exact xA ρ fun q ρ1=>aQ ρ1<| .inr (.inr (.inl ⟨rfl,go (by decide+kernel) (q.trans (by decide+kernel))⟩))
 ·exact xA ρ fun q ρ1=>aQ ρ1<| .inr (.inr (.inr (.inl ⟨rfl,go (by decide+kernel) (q.trans (by decide+kernel))⟩)))
 ·exact xA ρ fun q ρ1=>aQ ρ1<| .inr (.inr (.inr (.inr ⟨rfl,go (by decide+kernel) (q.trans (by decide+kernel))⟩)))
theorem pz{z:Str}{pl:Sem Bool}{Q:Value×List Value->Shared->Prop}(hz:i5 z=true)(e:gJ I0 (cS z)=some f)(ok:j0 f x σ.H=true)(ra:VR σ.g x av)(h:Q (.builtin (Be f),[av]) σ.s):wpAny M A (getMethod av z pl) Q E σ.s:=by
 have lst:hL σ.H x false (fun Y Y Y=>true)=true->∃D o,av=.ref D/\σ.s.heap.get? D=some o/\o.cls=.type "list"/\o.dict=none:=fun q=>by
  refine Or.elim (gL q) (fun ρ=>?_) fun q=>?_
  ·refine aI ρ fun i rs c ρ3 e1 Y=>?_;subst ρ3;exact bI (σ.list e1 ra) fun D us m eD Y Y Y g1 Y=>⟨D,_,eD,g1,rfl,rfl⟩
  ·exact d_ q
 have dI:∀{c:Bool},iD σ.H x c (fun Y Y Y=>true)=true->(∃D o,av=.ref D/\σ.s.heap.get? D=some o/\o.cls=.type "dict"/\o.dict=none)\/c=true:=fun q=>by
  refine Or.elim (ff q) (fun ρ=>?_) fun q=>?_
  ·refine aI ρ fun i rs c ρ3 e1 Y=>?_;subst ρ3;exact bf (σ.dI e1 ra) fun D us eD Y Y Y g1 Y=>.inl ⟨D,_,eD,g1,rfl,rfl⟩
  ·exact .inr q
 have dL:rZ σ.H x false (fun Y Y Y=>true)=true->∃D o,av=.ref D/\σ.s.heap.get? D=some o/\o.cls=.type "dict"/\o.dict=none:=fun q=>by
  refine Or.elim (uQ q) (fun ρ=>?_) fun q=>?_
  ·refine aI ρ fun i rs c ρ3 e1 Y=>?_;subst ρ3;exact gY (σ.dL e1 ra) fun D us eD Y Y g1 Y=>⟨D,_,eD,g1,rfl,rfl⟩
  ·exact d_ q
 refine Or.elim (DJ hz e) (fun ρ=>?_) fun ρ=>Or.elim ρ (fun ρ=>?_) fun ρ=>Or.elim ρ (fun ρ=>?_) fun ρ=>Or.elim ρ (fun ρ=>?_) fun ρ=>?_
 ·obtain⟨rfl,rfl⟩:=ρ;refine br (lst ok) fun D o ρ g t1 t2=>?_;subst ρ;exact getMethod_builtin ⟨_,g,t1⟩ PySem.F.plainAttrs_list PySem.F.slot_list_append PySem.F.type_list_append (fun b hb=>by obtain rfl:=Value.ref.inj hb;exact⟨_,g,t2⟩) h
 ·obtain⟨rfl,rfl⟩:=ρ;refine br (lst ok) fun D o ρ g t1 t2=>?_;subst ρ;exact getMethod_builtin ⟨_,g,t1⟩ PySem.F.plainAttrs_list PySem.F.slot_list_remove PySem.F.type_list_remove (fun b hb=>by obtain rfl:=Value.ref.inj hb;exact⟨_,g,t2⟩) h
 ·obtain⟨rfl,rfl⟩:=ρ;refine br ((dI ok).elim id dL) fun D o ρ g t1 t2=>?_;subst ρ;exact getMethod_builtin ⟨_,g,t1⟩ PySem.F.plainAttrs_dict PySem.F.slot_dict_get PySem.F.type_dict_get (fun b hb=>by obtain rfl:=Value.ref.inj hb;exact⟨_,g,t2⟩) h
 ·refine xA ρ fun ρ0 ρ1=>?_;subst ρ0;subst ρ1;refine br ((dI ok).elim id fun q=>d_ q) fun D o ρ g t1 t2=>?_;subst ρ;exact getMethod_builtin ⟨_,g,t1⟩ PySem.F.plainAttrs_dict PySem.F.slot_dict_pop PySem.F.type_dict_pop (fun b hb=>by obtain rfl:=Value.ref.inj hb;exact⟨_,g,t2⟩) h
 ·refine xA ρ fun ρ0 ρ1=>?_;subst ρ0;subst ρ1;refine Or.elim (bY (show@Option.rec Nat (fun Y=>Bool) false (fun Y=>true) (di x)=true from ok)) (fun ρ=>?_) fun ρ=>?_
  ·obtain⟨i,e1,_⟩:=ρ;rw [iy e1] at ra;refine xE (dh ra) fun t ρ=>?_;subst ρ;exact getMethod_builtin rfl PySem.F.plainAttrs_str PySem.F.slot_str_join PySem.F.type_str_join (fun b hb=>nomatch hb) h
  ·obtain⟨_,q⟩:=ρ;exact d_ q
end
end
section
set_option maxRecDepth 100000
open PySem PySem.Calls PyProof.Rows PySem.W PySem.SeqAt
section
inductive N8(g:Gh):Fn->Value->Prop
 |fn (f:Nat):N8 g (.fn f) (.ref (ik f))
 |clo (l:Expr) (env:List (Nat×V)) (u:Value):VR g (.clo l env) u->N8 g (.clo l env) u
structure kq(n:Nat)(A:Around):Prop where
 d:A.depth+10*n+20<=1000
 u:A.units+100*n+20<=cLine
 h:A.handled=none
 g:A.guards=some []
def cF(n:Nat)(O:CK):Prop:=∀A,kq n A->∀σ fn fv xs vals k r,O fn xs σ.H k=some r->N8 σ.g fn fv->c6 σ.g xs vals->∀R:Result->Shared->Prop,Fin σ k r (fun val s'=>R (.ok (.ret val)) s')->codeAny M A (.call fv ⟨vals,[]⟩) R σ.s
variable{O:CK}{A:Around}{E:Value->Shared->Prop}{ex o xa xb xc:Expr}
theorem bZ.toC(h:bZ n A):kq n A:=⟨by have:=h.d;exact ai 0x3e81190c600a0450000010000003e81140c600a045000040002 rfl this,by obtain this:=h.u;exact ai 0x7f031819011400000401d40c6064045000040003 rfl this,h.h,h.g⟩
theorem cZ(c:aJ ex=true):starEach (ex::eI) env=(false,eval ex env)::starEach eI env:=by cases ex<;>first|exact d_ c|rfl
theorem zo(ih:∀ex,gn n O ns false (ce false ns ex) ex):∀{exs:List Expr},exs.all aJ=true->xf n ns (oW O (HW ce ns exs)) exs
 | [],_=>fun A hA σ env m fr k r e pos Q E hQ=>spliced_nil (hQ σ [] [] (.refl _) .nil rfl e)
 |a::eI,c=>fun A hA σ env m fr k r e pos Q E hQ=>by refine xA (aX (show(and (aJ a) (eI.all aJ))=true from c)) fun c1 c2=>J (cZ c1)<|(?_ :wpAny _ _ (spliced ((false,eval a env)::backTo pos (starEach eI env))) _ _ _);refine spliced_cons (ih a A hA σ env m fr _ r e _ E fun τ v u l ru e=>?_);exact zo ih c2 A hA τ env m (fr.le l) _ r e pos _ E fun υ xs vals l' rv hl e=>hQ υ _ _ (l.trans l') (.cons (l'.vr ru) rv) (congrArg Nat.succ hl) e
theorem uG(ih:∀ex,gn n O ns false (ce false ns ex) ex):xf n ns (oW O (nE ce ns exs)) exs:=by
 delta nE;refine fE (exs.all aJ) (fun q=>?_) fun q=>?_
 ·exact zo ih q
 ·exact fun A hA σ env m fr k r e=>nn e
theorem vN{k:List V->Hp->KX}{h:Hp}(e:oW O (nE ce ns exs) m h k=some r):exs.all aJ=true:=by
 delta nE at e;refine fE (exs.all aJ) (fun q=>?_) fun q=>?_
 ·rfl
 ·obtain e:=q▸e;exact nn e
theorem sS(hl:Nat.ble exs.length 100=true)(ih:xf n ns fs exs):a9 n ns (rC O (.lst mu) fs) (.List exs pos):=by
 intro A hA σ env m fr k r e Q E hQ;refine J (arm_eval_List _ _ _)<|QC (wpAny_standAt (QC (ih A hA σ env m fr _ r e pos _ E fun τ xs vals l rv lv e=>?_)));refine xA (xq (M':=M) (A:=A) (E:=E) (Q:=Q) rv (J lv<|hl)) fun h1 h2=>?_
 cases mu with
 |false=>exact h1 ((hQ.from l).toV e)
 |true=>replace e:dt τ.H _ k=some r:=e;rw [fA] at e;exact h2 ((hQ.from l).toV e)
theorem BZ(hl:Nat.ble exs.length 100=true)(ih:xf n ns fs exs):a9 n ns (rC O .tup fs) (.Tuple exs ct pos):=by intro A hA σ env m fr k r e Q E hQ;exact J (arm_eval_Tuple _ _ _ _)<|QC (wpAny_standAt (QC (ih A hA σ env m fr _ r e pos _ E fun τ xs vals l rv lv e=>tI rv (J lv<|hl) ((hQ.from l).toV e))))
noncomputable def pairsOf(env:Env)(pos:Pos):List Expr->List Expr->List (Sem Value×Sem Value)
 |k::ks,v::vs=>(eval k env,do let x <-eval v env;standAt pos;pure x)::pairsOf env pos ks vs
 |_,_=> []
theorem kZ:∀{ks vs:List Expr},ks.length=vs.length->(evalEachOpt (ks.map some) env).zip ((evalEach vs env).map fun v=>do let x <-v;standAt pos;pure x)=(pairsOf env pos ks vs).map fun p=>(some p.1,p.2)
 | [],[],_=>rfl
 |k::ks,v::vs,h=>by exact congrArg _ (kZ (Nat.succ.inj h))
 | [],_::_,h=>nomatch h
 |_::_,[],h=>nomatch h
theorem pairs_len:∀{ks vs:List Expr},ks.length=vs.length->(pairsOf env pos ks vs).length=ks.length
 | [],[],_=>rfl
 |k::ks,v::vs,h=>congrArg Nat.succ (pairs_len (Nat.succ.inj h))
 | [],_::_,h=>nomatch h
 |_::_,[],h=>nomatch h
def Dj(c:Nat)(e:Expr):Prop:=∃s kk p,e=.Constant (.str s) kk p/\am c=s
theorem yt:∀{ks:List (Option Expr)} {l:List Nat},BG ks=some l->∃es,ks=es.map some/\aT Dj l es
 | [],l,e=>bt e<|⟨[],rfl,.nil⟩
 |o::ks,l,e=>by refine an (ah e) fun c e1 e=>an (ah e) fun r e2 e=>bt e<|an (yt e2) fun es ρ a=>J ρ<|an (ah e1) fun x ρ e1=>?_;subst ρ;refine⟨x::es,rfl,.cons (GG (P:=fun z=>z=some c->Dj c x) x nn (fun k kk p ex=>Ff (P:=fun z=>z=some c->Dj c x) k nn (fun Y=>nn) (fun Y Y=>nn) (fun Y Y=>nn) fun s q e=>?_) e1) a⟩;exact xA (aW e) fun h e=>bt e<|⟨s,kk,p,q▸ex,dT h⟩
structure KP(g:Gh)(p:Nat×V)(q:Value×Value):Prop where
 key:∃t,q.1=.str (am p.1) t
 val:VR g p.2 q.2
theorem y_(hA:bZ n A)(ih:∀ex,gn n O ns false (ce false ns ex) ex)(a:aT Dj l ks):∀{vs:List Expr},ks.length=vs.length->∀{σ:VS},Fr σ ns env m->∀{k:List V->Hp->KX},oW O (HW ce ns vs) m σ.H k=some r->
  ∀{Q:List (Value×Value)->Shared->Prop},(∀τ xs vals,Le dH σ τ->aT (KP τ.g) (l.zip xs) vals->xs.length=l.length->k xs τ.H=some r->Q vals τ.s)->wpAny M A (evalPairs (pairsOf env pos ks vs)) Q E σ.s:=by
 induction a with
 |nil=>
  intro vs hl σ fr k e Q hQ
  cases vs with
  |nil=>exact evalPairs_nil (hQ σ [] [] (.refl _) .nil rfl e)
  |cons=>exact nomatch hl
 |cons h t it=>
  intro vs hl σ fr k e Q hQ;refine m5 h fun s kk p ρ es=>J ρ ?_
  cases vs with
  |nil=>exact nomatch hl
  |cons v vs=>refine evalPairs_cons (wpAny_Constant_str ?_);refine QC (ih v A hA (σ.tk (σ.s.toks+1)) env m (fr.le σ.tk_le) _ r e _ E fun τ x u l ru e=>QC (wpAny_standAt (QD ?_)));have l0:=(σ.tk_le).trans l;exact it (Nat.succ.inj hl) (fr.le l0) e fun υ xs vals l' rv hl e=>hQ υ (x::xs) _ (l0.trans l') (aT.cons ⟨⟨_,congrArg (Value.str · _) es.symm⟩,l'.vr ru⟩ rv) (congrArg Nat.succ hl) e
theorem Le.narrow(l:Le P σ τ)(h:∀b o,P b->σ.g.w b≠ .f o):Le dH σ τ:=⟨l.g,fun b o e Y=>l.f b o e fun q=>h b o q e,l.s⟩
theorem CX(c:Nat)(x:V)(es:List (Nat×V)):aq (aP Nat.beq c x es)<=aq es+1:=by
 induction es with
 |nil=>exact QR _
 |cons p r ih=>
  obtain⟨a,b⟩:=p;by_cases q:a=c
  ·exact J (xw natE q _ _ _)<|Nat.le_succ _
  ·exact J (rR natE q _ _ _)<|Q3 ih
noncomputable abbrev sU(bn:Array DictEntry)(ep:Nat):Obj:={cls:=.type "dict",data:=.dict bn ep}
set_option tactic.hygienic true in
theorem vq:∀{ks:List Nat} {xs:List V} {vals:List (Value×Value)} {es:List (Nat×V)} {ep:Nat} {o:aB} {bn:Array DictEntry} {σ:VS} {Q:PUnit->Shared->Prop},
  ML ks xs es ep=some o->aT (KP σ.g) (ks.zip xs) vals->σ.g.w d=.f (sU bn ep)->aT (ER litKind σ.g) es bn.toList->aq es+aq ks<=60000->
  (∀τ bL es' ep',Le (· =d) σ τ->τ.H=σ.H->o=.dL es' ep'->τ.g.w d=.f (sU bL ep')->aT (ER litKind τ.g) es' bL.toList->Q PUnit.unit τ.s)->
  wpAny M A (forIn vals PUnit.unit fun x (_:PUnit)=>(do dictSet d x.1 x.2;pure (ForInStep.yield PUnit.unit):Sem (ForInStep PUnit))) Q E σ.s
 | [],[],vals,es,ep,o,bn,σ,Q,e,a,hd,al,hl,hQ=>by cases a;obtain rfl:=sj e;exact J List.forIn_nil<|QD (hQ σ bn _ _ (.refl _) rfl rfl hd al)
 | [],_::_,vals,es,ep,o,bn,σ,Q,e,a,hd,al,hl,hQ=>nn e
 |_::_,[],vals,es,ep,o,bn,σ,Q,e,a,hd,al,hl,hQ=>nn e
 |c::ks,x::xs,vals,es,ep,o,bn,σ,Q,e,a,hd,al,hl,hQ=>by
  cases a with
  |cons r t=>
  rename_i q vals;obtain⟨q1,q2⟩:=q;obtain⟨⟨tk,rfl⟩,rv⟩:=r;replace hl:aq es+(aq ks+1)<=60000:=hl;refine J (List.forIn_cons _ _ _ _)<|QC (QC (oX natE (σ.r.ex d _ (by refine J hd ?_;rfl)) al (A0 c tk) (QH (ai 0x3a980404318014000100000ea60105040002 rfl hl)) rv fun h' tk' bL sb hc al'=>QD ?_));let υ:VS:=σ.put d (.f (sU bL (qs (aL Nat.beq es c) ep))) tk' ⟨.inr ⟨_,hd⟩⟩ (fun b n Y=>sb.2 b n) (.f _ hc);have l:Le (· =d) σ υ:=σ.put_le (.inr rfl);obtain len:=CX c x es;have e':ML ks xs (aP Nat.beq c x es) (qs (aL Nat.beq es c) ep)=some o:=e;exact vq e' (t.mono fun Y Y z=>⟨z.key,z.val.mono l.g⟩) (cQ _ _ _) (al'.mono fun Y Y z=>z.mono l.g) (ai 0x431c01400400003a98040431801c000100000ea60106140080003 rfl hl len) fun τ des2 es2 ep2 l2 hh eo hd2 al2=>hQ τ des2 es2 ep2 (l.trans l2) hh eo hd2 al2
theorem zZ{l:List Nat}{ks:List (Option Expr)}(ih:∀ex,gn n O ns false (ce false ns ex) ex)(hk:BG ks=some l)(h15:Nat.ble ks.length 15=true)(hl:Nat.beq ks.length exs.length=true):a9 n ns (rC O (.dct l) (oW O (nE ce ns exs))) (.Dict ks exs pos):=by
 intro A hA σ env m fr k r e Q E hQ;replace hl:=QT hl;replace h15:=QG h15;have hs:=vN e;delta nE at e;rw [hs] at e;refine an (yt hk) fun es ρ a=>?_;subst ρ;rw [List.length_map] at hl h15;refine J (arm_eval_Dict _ _ _ _) ?_
 cases l with
 |nil=>cases a;obtain rfl:=List.length_eq_zero_iff.mp hl.symm;refine QC (wpAny_standAt ?_);refine(?_ :wpAny _ _ newDict _ _ _);refine wpAny_newObj_type ?_ (by first|exact lin 0x10c1000000100003000000 rfl|trivial);replace e:dt σ.H (.dI [] 0) k=some r:=e;rw [fA] at e;exact(hQ.toV e).new _ rfl σ.s.toks fun g' h' Y q=>⟨rfl,List.Pairwise.nil,#[],q,.nil⟩
 |cons c l=>
  obtain ne:es≠ []:=fun q=>by rw [q] at a;exact nomatch a
  obtain ll:=a.length;refine J (kZ hl)<|J (dictDisplay_pairs _ (fun q=>ne (List.length_eq_zero_iff.mp (by(refine aQ (pairs_len hl)<|J q ?_);rfl))) (J (pairs_len hl)<|ai 0xf0c50010110c5040041 rfl h15)) ?_;refine QC (wpAny_standAt (QC ?_));delta subDict;refine QC (wpAny_alloc ?_);refine QC (QE ?_);refine J (QM (J (pairs_len hl)<|ai 0xf0c500100f0c5040001 rfl h15)) ?_;obtain hN:(σ.s.heap.push (sU #[] 0)).get? σ.s.heap.objs.size=some (sU #[] 0):=Heap.get?_push_size _ rfl;let σ₁:VS:=σ.psh (sU #[] 0) (.f (sU #[] 0)) σ.s.toks (.f _ hN);have l1:Le dH σ σ₁:=σ.psh_le;refine QC (y_ hA ih a hl (fr.le l1) e fun τ xs vals l2 kp lx e=>QE ?_);refine an (aZ (show ag (ML (c::l) xs [] 0) (fun o=>dt τ.H o k)=some r from e)) fun o e1 e=>?_;obtain hd:=l2.f _ _ (cQ _ _ _) id;refine QC (vq e1 kp hd .nil (by(refine J (aw (c::l))<|aQ ll ?_);exact ai 0x3c31400400003a98041400c0040001 rfl h15) fun υ bL es' ep' l3 hh eo hd' al=>QD (QD (QD ?_)));subst eo;rw [fA] at e;have op:pX υ.g σ.s.heap.objs.size:=⟨.inr ⟨_,hd'⟩⟩
  have ho:=υ.r.ex _ _ (by refine J hd' ?_;rfl:(υ.g.w σ.s.heap.objs.size).ob=some (sU bL ep'));have ln:υ.s.heap.get? σ.s.heap.objs.size≠none:=J ho<|fun q=>nn q.symm;let Y:VS:=υ.mk1 σ.s.heap.objs.size σ.s.heap.objs.size (.dL es' ep') υ.s.toks op op (fun Y Y Y Y=>rfl) ln ln ⟨rfl,bL,ho,al.mono fun Y Y z=>z.mono (iw (.inl (υ.r.new _ (QR _))) op.ng op.ng)⟩;obtain l4:Le (· =σ.s.heap.objs.size) υ Y:=υ.mk1_le (.inr rfl) (.inr rfl);obtain lf:=(((l1.trans l2).wide.trans l3).trans l4).narrow fun b o q w=>by rw [q,σ.r.live _ (bu _)] at w;exact Ow.noConfusion w
  exact hQ Y _ _ lf (.ref _ _ _ (m9 _ _ _)) (show k (.ref υ.H.next) (υ.H.new (.dL es' ep'))=some r by exact J hh<|e)
end
section
variable{O:CK}{σ τ:VS}{ex o xa xb xc:Expr}
theorem jK:∀{exs:List Expr},exs.all aJ=true->(backTo pos (starEach exs env)).any (·.1)=false
 | [],_=>rfl
 |e::r,c=>by refine xA (aX (show(and (aJ e) (r.all aJ))=true from c)) fun c1 c2=>J (cZ c1)<|(?_ :(false || (backTo pos (starEach r env)).any (·.1))=false);refine J (jK c2) ?_;rfl
theorem s6:∀{exs:List Expr},exs.all aJ=true->(backTo pos (starEach exs env)).all (!·.1)=true
 | [],_=>rfl
 |e::r,c=>by exact xA (aX (show(and (aJ e) (r.all aJ))=true from c)) fun c1 c2=>J (cZ c1)<|s6 c2
abbrev Keeps(P:Heap->Prop)(fv:Value):Prop:=∀h,P h->∃k,(k=Keeper.frame\/k=Keeper.machine\/k=Keeper.boundFrame)/\Looks M h (keeperOf fv) k
theorem kD(hA:bZ n A)(ih:∀ex,gn n O ns false (ce false ns ex) ex)(fr:Fr σ ns env m){k:List V->Hp->KX}(e:oW O (nE ce ns exs) m σ.H k=some r)(hk:Keeps P fv)(hP:∀τ,Le dH σ τ->P τ.s.heap)
  (h:FJ σ k r exs.length fun vals s=>wpAny M A (PySem.call fv (first++vals)) Q E s):wpAny M A (callWith pos fv first (backTo pos (starEach exs env)) []) Q E σ.s:=by
 have hs:=vN e
 cases exs with
 |nil=>exact callWith_of rfl hk (evalArgs_nil3 ⟨hP σ (.refl _),h σ [] [] (.refl _) .nil rfl e⟩)
 |cons a eI=>
  have key:=uG ih A hA σ env m fr k r e pos (fun vals s₁=>P s₁.heap/\wpAny M A (PySem.call fv (first++vals)) Q E s₁) E fun τ xs vals l rv hl e=>⟨hP τ l,h τ xs vals l rv hl e⟩
  have bp:=jK (pos:=pos) (env:=env) hs;rw [cZ (aX hs).1] at key bp ⊢;exact callWith_of (by refine J bp ?_;rfl) hk (evalArgs_plain key)
theorem Fp(C:Cx)(cs:cF n O)(ih:∀ex,gn n O ns false (ce false ns ex) ex){f:Nat}(c:qW (bK ns z)=true)(hz:i5 z=true)(hg:gJ Jx (cS z)=some f):a9 n ns (rC O (.fn f) (oW O (nE ce ns exs))) (.Call (.Name z p) exs [] pos):=by intro A hA σ env m fr k r e Q E hQ;refine xA (C.fn z f hz hg) fun g1 g2=>wpAny_Call_NameR (hO fr c C (.inl g1) ?_);exact kD hA ih fr e (keeps_K g2) (fun τ Y=>τ.kin C.G.kin C.G.nt) fun τ xs vals l rv Y e=>wpAny_call (cs A hA.toC τ (.fn f) _ xs vals k r e (.fn f) rv _ (hQ.from l))
theorem eN{f:Value}(e:keeperOf f=pure .machine):∃k,(k=Keeper.frame\/k=Keeper.machine\/k=Keeper.boundFrame)/\Looks M h (keeperOf f) k:=⟨_,.inr (.inl rfl),Looks.of_pure e⟩
theorem B5(C:Cx)(ih:∀ex,gn n O ns false (ce false ns ex) ex){f:Nat}(c:qW (bK ns z)=true)(hz:i5 z=true)(hg:gJ Ju (cS z)=some f):a9 n ns (rC O (.blt f) (oW O (nE ce ns exs))) (.Call (.Name z p) exs [] pos):=by intro A hA σ env m fr k r e Q E hQ;refine wpAny_Call_NameR (hO fr c C (.inr (C.bl z f hz hg)) ?_);exact kD (P:=fun Y=>True) hA ih fr e (fun h Y=>eN (by delta kM;split<;>rfl)) (fun Y Y=>trivial) fun τ xs vals l rv Y e=>Cu C.G hA e rv (hQ.from l)
theorem xO(C:Addr)(vals:List Value):(Code.builtin "type.__call__" ⟨.ref C::vals,[]⟩).weight=1:=by kernel_rfl
theorem yl(args:Args):(Code.builtin "type.__call__" args).cUnits=1:=by kernel_rfl
theorem D1(hA:bZ n A)(c:Addr)(vals:List Value):kq n (A.under (.builtin "type.__call__" ⟨.ref c::vals,[]⟩)):=by
 obtain b1:=xO c vals;obtain b2:=yl ⟨.ref c::vals,[]⟩;obtain gz:(Code.builtin "type.__call__" ⟨.ref c::vals,[]⟩).isGuard=false:=by delta Code.isGuard;dsimp only;decide+kernel
 refine⟨?_,?_,hA.h,by simp[Around.under,Code.guards,gz,pushGuards,hA.g]⟩
 ·refine(?_ :A.depth+(Code.builtin "type.__call__" _).weight+10*n+20<=1000);refine J b1 ?_;have:=hA.d;exact ai 0xfa0464318028114000004000000fa04503180281043140000040002 rfl this
 ·refine(?_ :A.units+(Code.builtin "type.__call__" _).cUnits+100*n+20<=cLine);refine J b2 ?_;obtain this:=hA.u;exact ai 0x1fc0c6064045000001007503181901043140000040003 rfl this
theorem VS.newI(σ:VS)(c:Nat):∃τ:VS,Le dH σ τ/\τ.H=σ.H.new (.inst c [])/\τ.s={σ.s with heap:=(σ.s.heap.push emptyDict).push (instObj (dQ c) σ.s.heap.objs.size)}/\VR τ.g (.ref σ.H.next) (.ref (σ.s.heap.objs.size+1)):=by
 have gd:((σ.s.heap.push emptyDict).push (instObj (dQ c) σ.s.heap.objs.size)).get? σ.s.heap.objs.size=some emptyDict:=Heap.get?_push_of_some _ (Heap.get?_push_size _ rfl);have ga:((σ.s.heap.push emptyDict).push (instObj (dQ c) σ.s.heap.objs.size)).get? (σ.s.heap.objs.size+1)=some (instObj (dQ c) σ.s.heap.objs.size):=by obtain this:=Heap.get?_push_size (σ.s.heap.push emptyDict) (o:=instObj (dQ c) σ.s.heap.objs.size) rfl;rwa [Heap.size_push] at this
 have w1:=σ.r.live _ (i_ (Nat.le_succ σ.s.heap.objs.size));have w2:=σ.r.live _ (bu σ.s.heap);obtain gr:Grows σ.s.heap ((σ.s.heap.push emptyDict).push (instObj (dQ c) σ.s.heap.objs.size)):=fun b o e=>Heap.get?_push_of_some _ (Heap.get?_push_of_some _ e)
 exact⟨σ.mk1 (σ.s.heap.objs.size+1) σ.s.heap.objs.size (.inst c []) σ.s.toks ⟨.inl w1⟩ ⟨.inl w2⟩ (fun b Y Y n=>σ.r.same gr b n) (J ga<|fun q=>nn q.symm) (J gd<|fun q=>nn q.symm)
  ⟨Nat.succ_ne_self _,ga,fun p m=>(nomatch m),#[],0,gd,.nil⟩,σ.mk1_le (.inl fun o q=>by rw [w1] at q;exact Ow.noConfusion q) (.inl fun o q=>by rw [w2] at q;exact Ow.noConfusion q),rfl,rfl,.ref _ _ _ (m9 _ _ _)⟩
theorem CP(C:Cx)(cs:cF n O)(ih:∀ex,gn n O ns false (ce false ns ex) ex){c:Nat}(cg:qW (bK ns z)=true)(hz:i5 z=true)(hg:gJ K1 (cS z)=some c):a9 n ns (rC O (.cls c) (oW O (nE ce ns exs))) (.Call (.Name z p) exs [] pos):=by intro A hA σ env m fr k r e Q E hQ;refine xA (C.cl z c hz hg) fun g1 g2=>wpAny_Call_NameR (hO fr cg C (.inl g1) ?_);refine kD hA ih fr e (keeps_K g2) (fun τ Y=>τ.kin C.G.kin C.G.nt) fun τ xs vals l rv Y e=>an (aZ e) fun f e2 e=>?_;rw [fA] at e;refine fp (C.ini c f e2) fun m1 m2 m3=>?_;have kin:=τ.kin C.G.kin C.G.nt;refine bA (τ.newI c) fun υ l2 hH hs rk=>?_;rw [<-hH] at e;refine wpAny_call (make_core (makes_of kin m1) (looks_findIn kin m2) (fun self=>bind_fn kin self m3) (.inl rfl) ?_);refine J (show(⟨(τ.s.heap.push emptyDict).push (instObj (dQ c) τ.s.heap.objs.size),τ.s.gens,τ.s.drawn,τ.s.toks,τ.s.os⟩:Shared)=υ.s from hs.symm)<|cs _ (D1 hA _ vals) υ (.fn f) _ _ _ _ r e (.fn f) (.cons rk (l2.vrs rv)) _ fun Y v u l3 ru e=>an (aZ e) fun t e3 e=>xA (eA e) fun ρ e=>?_;subst ρ;exact aQ (Eq.symm ((fN e3 ru).2 rfl))<|⟨rfl,hQ Y _ _ ((l.trans l2).trans l3) (l3.vr rk) e⟩
theorem kW(hs:exs.all aJ=true)(h30:Nat.blt exs.length 30=true):methodCallForm (exs.length+([]:List Keyword).length) (backTo pos (starEach exs env)) (backToKw pos (keywordEach [] env))=true:=by refine(?_ :(and (and ((backTo pos (starEach exs env)).all (!·.1)) true) (decide (exs.length < 30)))=true);exact J (s6 hs)<|QO (QG h30)
theorem xx(C:Cx){i c m:Nat}{fs:List (Nat×V)}{pl:Sem Bool}{Q:Value×List Value->Shared->Prop}(hz:i5 z=true)(hm:jO c (cS z)=some m)(hk:σ.H.obj i=some (.inst c fs))(rx:VR σ.g (.ref i) u)(hQ:Q (.ref (ik m),[u]) σ.s):wpAny M A (getMethod u z pl) Q E σ.s:=by obtain h:=zW C.G C.C hm hk rx hQ;rwa [dT hz] at h
theorem JA(C:Cx)(cs:cF n O)(ih:∀ex,gn n O ns false (ce false ns ex) ex)(io:a9 n ns f o)(hz:i5 z=true)(hp:fJ o=true)(hline:(apos.endLine == pos.line)=true)(h30:Nat.blt exs.length 30=true):
  a9 n ns (rM O f (cS z) (gJ I0 (cS z)) (oW O (nE ce ns exs))) (.Call (.Attribute o z apos) exs [] pos):=by
 intro A hA σ env m fr k r e Q E hQ;refine J (arm_eval_Call _ _ _ _ _ _ _)<|J (jJ hp _) ?_;refine QC (io A hA σ env m fr _ r e _ E fun τ a u l ru e=>QC (wpAny_standAt ?_));have fr1:=fr.le l;delta methodCall;have hpos:methodCallPos true o env apos pos=pure pos:=by delta methodCallPos;rw [if_pos];refine J hline ?_;rfl
 refine Or.elim (iA e) (fun ρ=>?_) fun e=>?_
 ·refine aI ρ fun i c fs ρ3 e1 e=>?_;subst ρ3;refine an (aZ e) fun g e3 e=>?_;have hform:=kW (pos:=pos) (env:=env) (vN e) h30;refine J hform<|ez (C.C.m c (cS z) g e3) fun ok Y m1 m2 m3=>QC (QE ?_);refine xx C hz e3 e1 ru ?_;dsimp only;refine J hpos<|QC (QD ?_);exact kD hA ih fr1 e (keeps_K m3) (fun τ Y=>τ.kin C.G.kin C.G.nt) fun υ xs vals l2 rv Y e=>wpAny_call (cs A hA.toC υ (.fn g) _ _ _ k r e (.fn g) (.cons (l2.vr ru) rv) _ (hQ.from (l.trans l2)))
 ·refine an (aZ e) fun j e3 e=>xA (eA e) fun ok e=>?_;obtain hform:=kW (vN e) h30;refine J hform<|QC (QE ?_);refine pz hz e3 ok ru ?_;dsimp only;refine J hpos<|QC (QD ?_);exact kD (P:=fun Y=>True) hA ih fr1 e (fun h Y=>eN rfl) (fun Y Y=>trivial) fun υ xs vals l2 rv Y e=>Af C.G hA e (l2.vr ru) rv (hQ.from (l.trans l2))
theorem zg{g:Gh}(r:VR g (.clo l cX) u):∃a vals,u=.ref a/\wG g l a vals (cX.map (·.1))/\c6 g (cX.map (·.2)) vals:=by
 cases r with
 |clo _ _ a vals h1 h2 h3=>
  refine⟨a,vals,rfl,h1,.of_get (J (QJ _)<|h2) fun i x v e1 e2=>?_⟩;rw [List.getElem?_map] at e1;refine iS (cX[i]?) (fun q=>?_) fun p q=>?_
  ·rw [q] at e1;exact nn e1
  ·rw [q] at e1;exact bt e1<|h3 i p v q e2
theorem wu(cs:cF n O)(ih:∀ex,gn n O ns false (ce false ns ex) ex)(io:a9 n ns f ex)(hc:∀env,eval (.Call ex exs [] pos) env=(do callWith pos (<-eval ex env) [] (backTo pos (starEach exs env)) (backToKw pos (keywordEach [] env)))):a9 n ns (rA O f (oW O (nE ce ns exs))) (.Call ex exs [] pos):=by
 intro A hA σ env m fr k r e Q E hQ;refine J (hc env)<|QC (io A hA σ env m fr _ r e _ E fun τ a u l ru e=>?_);refine Or.elim (D3 e) (fun ρ=>?_) fun e=>?_
 ·refine dy ρ fun lm cX ρ2 e=>?_;subst ρ2;refine bV (zg ru) fun D vals ρ cl Y=>?_;subst ρ;refine kD hA ih (fr.le l) e keeps_F (fun υ l2=>?_) fun υ xs vals l2 rv Y e=>wpAny_call (cs A hA.toC υ (.clo lm cX) _ xs vals k r e (.clo _ _ _ (l2.vr ru)) rv _ (hQ.from (l.trans l2)));refine ij (cl.mono l2.g) fun ps b ψ0=>ij ψ0 fun sc pos ψ1=>da ψ1 fun cl pm c' ctv oc vs t h1 h2 Y=>⟨_,_,_,_,υ.r.ex _ _ (by refine J h2 ?_;rfl)⟩
 ·exact nn e
end
section
variable{u val:Value}{A:Around}{E:Value->Shared->Prop}{r:V×Hp}{X:Addr->Prop}
def sn(σ:VS)(P:Addr->Prop):Prop:=∀b,P b->∀o,(σ.g.w b).ob=some o->∀vs n,o.data≠ .seq vs n
def ND(σ:VS)(b:Addr):Prop:=∃o,(σ.g.w b).ob=some o/\∃vs n,o.data=.seq vs n
theorem Le.incl(l:Le P σ τ)(h:∀b,P b->P' b):Le P' σ τ:=⟨l.g,fun b o e n=>l.f b o e fun p=>n (h b p),l.s⟩
def iV(ns:cW)(env:Env)(b:Addr):Prop:=b=env.locals\/∃z k,bK ns z=some k/\(k=.cell\/k=.free)/\env.cells.lookup z=some b
theorem dF.has(h:dF ns env b):iV ns env b:=h.imp id fun⟨z,h1,h2⟩=>⟨z,.cell,h1,.inl rfl,h2⟩
theorem Fr.has(f:Fr σ ns env m)(h:iV ns env b):∃o,(σ.g.w b).ob=some o/\∀vs n,o.data≠ .seq vs n:=by
 refine Or.elim h (fun ρ=>?_) fun ρ=>?_
 ·refine J ρ<|xE f.loc fun o e=>?_;have e:(σ.g.w env.locals).ob=some o:=by refine J e ?_;rfl
  refine an f.val fun L ρ Y=>aI ρ fun o' es ep ho hd Y=>?_;rw [σ.r.ex _ _ e] at ho;obtain rfl:=sj ho;exact⟨o,e,fun vs n q=>by rw [q] at hd;cases hd⟩
 ·refine bV ρ fun z k h1 h2 h3=>an (f.cel z k h1 h2) fun c hc r=>?_;rw [h3] at hc;obtain rfl:=sj hc;refine xE r.ob fun o e=>an r.val fun v₀ ρ Y=>an ρ fun o' ho hd=>?_;rw [σ.r.ex _ _ e] at ho;obtain rfl:=sj ho;exact⟨o,e,fun vs n q=>by rw [q] at hd;cases hd⟩
theorem Fr.noSeq(f:Fr σ ns env m):sn σ (dF ns env):=fun b h o e vs n q=>by
 refine an (f.has h.has) fun o' e' h'=>?_;rw [e] at e';obtain rfl:=sj e';exact h' vs n q
theorem Fr.leO(f:Fr σ ns env m)(l:Le P σ τ)(hP:∀b,iV ns env b->¬P b):Fr τ ns env m:=by refine xE f.loc fun o e=>an f.val fun L n hL=>xA (l.keep (hP _ (.inl rfl)) (by refine J e ?_;rfl:(σ.g.w env.locals).ob=some o)) fun q1 q2=>?_;exact⟨f.fnk,f.gl,f.bi,f.ok,f.kinds,⟨o,q1.trans e⟩,⟨L,jS n q2,fun z v a b=>(hL z v a b).imp fun val q=>⟨q.1,q.2.mono l.g⟩⟩,fun z k a b=>(f.cel z k a b).imp fun c q=>⟨q.1,q.2.le l (hP c (.inr ⟨z,k,a,b,q.1⟩)) id fun v q=>q⟩,f.apart⟩
theorem Fr.leL(f:Fr σ ns env m)(l:Le P σ τ)(hP:∀b,P b->ND υ b)(hu:Le dH υ σ):Fr τ ns env m:=f.leO l fun b hb p=>by
 refine an (hP b p) fun o e ψ0=>ij ψ0 fun vs n q=>an (f.has hb) fun o' e' h'=>?_;rw [(hu.keep id e).1,e] at e';obtain rfl:=sj e';exact h' vs n q
def It.itm:It->Option (List V)
 |.l xs=>some xs
 |.g up cs=>some (cs.map (Ef up))
 |_=>none
inductive w8(σ:VS)(X:Addr->Prop)(it:Addr):It->Prop
 |seq {t:It} (xs:List V) (D:Addr) (T:String) (vs:Array Value) (m i:Nat):t.itm=some xs->(σ.g.w D).ob=some {cls:=.type T,data:=.seq vs m}->c6 σ.g xs (vs.toList.drop i)->T="tuple"/\σ.s.heap.IsTupleIter it D i\/T="list"/\σ.s.heap.IsListIter it D i->¬X D->w8 σ X it t
 |rng (lo hi:Int):IsRangeIter σ.s.heap it lo (if lo < hi then hi - lo else 0) 1->w8 σ X it (.r lo hi)
 |dct (k:Nat) (D d:Addr) (i n ep:Nat):σ.g.m k=some (D,d)->σ.s.heap.IsKeyIter it D i n ep->w8 σ X it (.d (.ref k) i n ep)
structure uN(σ:VS)(X:Addr->Prop)(it:Addr)(t:It):Prop where
 w:∃o,σ.g.w it=.f o
 r:w8 σ X it t
theorem uN.le(x:uN σ X it t)(l:Le P σ τ)(n:¬P it)(s:∀b,P b->X b\/∀o,(σ.g.w b).ob=some o->∀vs n,o.data≠ .seq vs n):uN τ X it t:=by
 obtain⟨⟨o,e⟩,x⟩:=x;refine xA (l.keep n (by refine J e ?_;rfl:(σ.g.w it).ob=some o)) fun q1 q2=>?_;refine⟨⟨o,q1.trans e⟩,?_⟩
 cases x with
 |seq xs D T vs m i h1 h2 h3 h4 h5=>
  refine .seq xs D T vs m i h1 (J ((l.keep (fun p=>(s D p).elim h5 fun s=>s _ h2 vs m rfl) h2).1)<|h2) (h3.up l.g) (h4.imp (And.imp id ?_) (And.imp id ?_)) h5
  ·rintro⟨o,ho,q⟩;exact⟨o,q2.trans ho,q⟩
  ·rintro⟨o,ho,q⟩;exact⟨o,q2.trans ho,q⟩
 |rng lo hi q=>exact .rng lo hi (q2.trans q)
 |dct k D d i n ep h1 h2=>refine an h2 fun o ho q=>?_;exact .dct k D d i n ep (l.g.m _ _ h1) ⟨o,q2.trans ho,q⟩
theorem uN.old(x:uN σ dH it t)(h:σ.s.heap.get? D=none):uN σ (· =D) it t:=by
 obtain⟨w,x⟩:=x;refine⟨w,?_⟩
 cases x with
 |seq xs D' T vs m i h1 h2 h3 h4 _=>exact .seq xs D' T vs m i h1 h2 h3 h4 fun q=>by rw [<-q,σ.r.ex _ _ h2] at h;exact nn (Eq.symm h)
 |rng lo hi q=>exact .rng lo hi q
 |dct k D d i n ep h1 h2=>exact .dct k D d i n ep h1 h2
theorem Bd(h1:t.itm=some xs)(e1:eQ t h e k=some r):xs= []/\e=some r\/∃x xs' t',xs=x::xs'/\It.itm t'=some xs'/\k x t'=some r:=by
 cases t with
 |l ys=>
  cases h1
  cases xs with
  |nil=>exact .inl ⟨rfl,e1⟩
  |cons x xs=>exact .inr ⟨x,xs,.l xs,rfl,rfl,e1⟩
 |g up cs=>
  refine bt h1 ?_
  cases cs with
  |nil=>exact .inl ⟨rfl,e1⟩
  |cons c cs=>exact .inr ⟨_,_,.g up cs,rfl,rfl,e1⟩
 |_=>exact nn h1
theorem qF(hA:A.handled=none)(x:uN σ X it t)(ev:eQ t σ.H e k=some r)
  (hs:∀τ v t' val,Le (· =it) σ τ->τ.H=σ.H->uN τ X it t'->VR τ.g v val->k v t'=some r->Q (some val) τ.s)(hn:∀τ,Le (· =it) σ τ->τ.H=σ.H->e=some r->Q none τ.s):wpAny M A (pyNext (.ref it)) Q E σ.s:=by
 obtain⟨⟨o,ew⟩,x⟩:=x;have op:pX σ.g it:=⟨.inr ⟨o,ew⟩⟩
 have stop:e=some r->∀h',Heap.ExtBut it σ.s.heap h'->Q none {σ.s with heap:=h'}:=fun e h' eb=>hn (σ.put it .free σ.s.toks op (fun c n m=>by exact xE (σ.r.old m) fun x e=>J e<|eb c x n e) .free) (σ.put_le (.inr rfl)) rfl e;have go:∀(h':Heap) (tk:Tok) (o':Obj) (v:V) (t':It) (val:Value),Heap.SameBut it σ.s.heap h'->h'.get? it=some o'->k v t'=some r->VR σ.g v val->(∀τ:VS,Le (· =it) σ τ->τ.s.heap=h'->w8 τ X it t')->Q (some val) {σ.s with heap:=h',toks:=tk}:=fun h' tk o' v t' val sb ho e rv q=>by have l:Le (· =it) σ (σ.put it (.f o') tk op (fun c n Y=>sb.2 c n) (.f o' ho)):=σ.put_le (.inr rfl);exact hs _ v t' val l rfl ⟨⟨o',cQ _ _ _⟩,q _ l rfl⟩ (rv.mono l.g) e
 cases x with
 |seq xs D T vs m i h1 h2 h3 h4 h5=>
  have hD:=σ.r.ex D _ h2;have ne:D≠it:=fun q=>by obtain hD:=q▸hD;rcases h4 with⟨_,o',ho,_,hd⟩|⟨_,o',ho,_,hd⟩<;>(rw [hD] at ho;obtain rfl:=sj ho;cases hd)
  refine Or.elim (Bd h1 ev) (fun ρ=>?_) fun ρ=>?_
  ·refine xA ρ fun ρ0 e=>?_;subst ρ0;have hx:vs[i]? =none:=by
    have:=h3.length;rw [List.length_drop,Array.length_toList] at this;exact Array.getElem?_eq_none (by simp at this;exact ai 0x61c01400400031c0042185080003 rfl this (jw _ _))
   refine Or.elim h4 (fun ρ=>?_) fun ρ=>?_
   ·obtain⟨rfl,q⟩:=ρ;exact wpAny_pyNext_tuple_end hA q (cG hD) hx (stop e)
   ·obtain⟨rfl,q⟩:=ρ;exact wpAny_pyNext_list_end hA q (aU hD) hx (stop e)
  ·refine aI ρ fun x xs' t' ρ3 ht e=>?_;subst ρ3;generalize hd:vs.toList.drop i=ds at h3
   cases h3 with
   | @cons _ val _ eI r1 r2=>
   have hx:vs[i]? =some val:=by(refine aQ (Array.getElem?_toList) ?_;refine aQ (List.head?_drop) ?_;refine J hd ?_);rfl
   obtain hr:vs.toList.drop (i+1)=eI:=by(refine aQ List.tail_drop<|J hd ?_);rfl
   have nx:∀{h':Heap} (τ:VS),Le (· =it) σ τ->τ.s.heap=h'->T="tuple"/\h'.IsTupleIter it D (i+1)\/T="list"/\h'.IsListIter it D (i+1)->w8 τ X it t':=fun τ l eh q=>
    .seq xs' D T vs m (i+1) ht (J ((l.keep ne h2).1)<|h2) (J hr<|c6.up l.g r2) (eh▸q) h5
   refine Or.elim h4 (fun ρ=>?_) fun ρ=>?_
   ·refine xA ρ fun ρ0 q=>?_;subst ρ0;exact wpAny_pyNext_tuple_item q (cG hD) hx fun h' q' sb=>an (id q') fun o' ho' Y=>go h' _ o' x t' val sb ho' e r1 fun τ l eh=>nx τ l eh (.inl ⟨rfl,q'⟩)
   ·refine xA ρ fun ρ0 q=>?_;subst ρ0;exact wpAny_pyNext_list_item q (aU hD) hx fun h' q' sb=>an (id q') fun o' ho' Y=>go h' _ o' x t' val sb ho' e r1 fun τ l eh=>nx τ l eh (.inr ⟨rfl,q'⟩)
 |rng lo hi q=>
  replace ev:@Bool.rec (fun Y=>KX) e (k (.int lo) (.r (Int.add lo 1) hi)) (decide (lo < hi))=some r:=ev;by_cases c:lo < hi
  ·obtain ev:=(QO c)▸ev;refine wpAny_pyNext_range_item q (by refine J (QM c) ?_;lia) fun h' q' sb=>go h' _ _ _ _ _ sb q' ev (.int _ _) fun τ l eh=>.rng _ _ ?_;refine J eh ?_;rw [if_pos c] at q';obtain e2:(if lo+1 < hi then hi - (lo+1) else 0)=hi - lo - 1:=by split<;>lia
   exact J e2<|q'
  ·obtain ev:=(QP c)▸ev;exact wpAny_pyNext_range_end hA q (by refine J (QN c) ?_;decide) (stop ev)
 |dct k' D d i n ep h1 h2=>
  refine Or.elim (ff ev) (fun ρ=>?_) fun ev=>?_
  ·refine aI ρ fun i' es ep' ei e1 ev=>?_;cases ei;refine xA (aW ev) fun hc ev=>xA (aX hc) fun c1 c2=>?_;obtain rfl:=QT c1;obtain rfl:=QT c2;refine bf (σ.dI e1 (.ref k' D d h1)) fun D' bn eD hm hw nd ho a=>?_;obtain rfl:=Value.ref.inj eD;refine bP (fG ho nd a) fun kvs d1 Y b1=>?_
   (obtain h2:=(aw _)▸h2;obtain h2:=b1.length▸h2)
   obtain ev:=(hV _ _)▸ev;refine Or.elim (bY ev) (fun ρ=>?_) fun ρ=>?_
   ·refine an ρ fun p ep ev=>an (b1.get ep) fun kv ekv rr=>?_;obtain⟨pk,pv⟩:=p;obtain⟨kk,vv⟩:=kv;refine xA rr fun ρ Y=>?_;subst ρ;refine wpAny_pyNext_dict_item h2 d1 ekv fun key h' hkey q' sb=>an (id q') fun o' ho' Y=>xE (Value.isInt_shape hkey) fun tk ρ=>?_;subst ρ;exact go h' _ o' (.int pk) _ _ sb ho' ev (.int _ _) fun τ l eh=>.dct k' D d (i+1) _ _ (l.g.m _ _ h1) (by(refine J eh<|J (aw _)<|aQ b1.length ?_);exact q')
   ·refine xA ρ fun ep ev=>wpAny_pyNext_dict_end hA h2 d1 ?_ (stop ev);obtain this:=List.getElem?_eq_none_iff.mp ep;exact List.getElem?_eq_none (J b1.length<|this)
  ·exact nn ev
theorem Az{lo hi:Int}(h:jx lo hi=true):Builtin.Range.small lo hi 1=true:=by refine fi (of_decide_eq_true h) fun a b c d=>?_;delta Builtin.Range.small;refine J (rangeSize_one _ _) ?_;simp only[Builtin.Range.rangeFitsLong];split<;>simp<;>lia
def Bk(σ τ:VS)(a:V):Prop:=∀P:Addr->Prop,sn τ P->∀υ,Le P τ υ->∃Y:VS,Le P σ Y/\Le (ND τ) υ Y/\Y.H=be σ.H a υ.H/\Y.s=υ.s
theorem Bk.same(l:Le dH σ τ)(e:∀h,be σ.H a h=h):Bk σ τ a:=fun P Y υ l2=>⟨υ,l.wide.trans l2,.refl _,(e _).symm,rfl⟩
theorem Bk.lent(hob:ob={cls:=.type "list",data:=.seq vs c})(hm:σ.g.m i=some (D,D))(hw:σ.g.w D=.k i)(l:Le dH σ τ)(hD:τ.g.w D=.f ob)(q:∀υ:VS,σ.g.le υ.g->υ.s.heap.get? D=some ob->OR υ.g υ.s.heap D D o)
  (e:∀h,be σ.H a h=h.set i o):Bk σ τ a:=fun P hP υ l2=>by
 have eD:(τ.g.w D).ob=some ob:=by refine J hD ?_;rfl
 have nP:¬P D:=fun p=>hP D p ob eD vs c (J hob rfl);have hD2:=l2.f D ob hD nP;have hh:=υ.r.ex D ob (by refine J hD2 ?_;rfl);have le:=(l.wide).trans l2;have l3:Le (· =D) υ (υ.back i D o (le.g.m _ _ hm) ⟨.inr ⟨ob,hD2⟩⟩ (J hh<|fun q=>nn q.symm) (q υ le.g hh)):=υ.back_le rfl;refine⟨_,⟨le.g.trans l3.g,fun b o' eb n=>l3.f b o' (le.f b o' eb n) fun q=>?_,le.s⟩,l3.incl ?_,(e _).symm,rfl⟩
 ·rw [q,hw] at eb;exact Ow.noConfusion eb
 ·rintro b rfl;exact⟨ob,eD,vs,c,J hob rfl⟩
theorem uN.noSeq(x:uN σ X it t):sn σ (· =it):=by
 rintro b rfl o e vs n q;have ho:=σ.r.ex _ _ e
 cases x.r with
 |seq xs D T vs m i h1 h2 h3 h4 _=>rcases h4 with⟨_,o',h,_,hd⟩|⟨_,o',h,_,hd⟩<;>(rw [ho] at h;obtain rfl:=sj h;rw [q] at hd;cases hd)
 |rng lo hi h=>rw [show σ.s.heap.get? b=some _ from h] at ho;obtain rfl:=sj ho;cases q
 |dct k D d i n ep h1 h2=>refine bP h2 fun o' h Y hd=>?_;rw [ho] at h;obtain rfl:=sj h;rw [q] at hd;cases hd
theorem Bk.step(bk:Bk σ τ a)(l:Le dH τ υ):Bk σ υ a:=fun P hP Y l2=>by
 refine bP (bk P (fun b p o e=>hP b p o (J ((l.keep id e).1)<|e)) Y (l.wide.trans l2)) fun φ h1 h2 h3=>?_;exact⟨φ,h1,h2.incl fun b ⟨o,e,q⟩=>⟨o,J ((l.keep id e).1)<|e,q⟩,h3⟩
theorem iX(e:h.obj i=some o)(n:β)(k:Nat->aB->β):CG h (.ref i) n k=k i o:=by refine(?_ :@Option.rec aB (fun Y=>β) n (k i) (h.obj i)=_);exact J e rfl
theorem VS.mkIt(σ:VS)(nf:o.isFreed=false):∃τ:VS,Le dH σ τ/\τ.H=σ.H/\τ.s={σ.s with heap:=σ.s.heap.push o}/\τ.g.w σ.s.heap.objs.size=.f o/\τ.s.heap.get? σ.s.heap.objs.size=some o:=
 ⟨σ.psh o (.f o) σ.s.toks (.f o (Heap.get?_push_size _ nf)),σ.psh_le,rfl,rfl,cQ _ _ _,Heap.get?_push_size _ nf⟩
theorem zQ(G:Gl)(e:bR σ.H a k=some r)(ra:VR σ.g a u)
  (hQ:∀τ it c t,Le dH σ τ->σ.g.w it=.free->Bk σ τ a->uN τ dH it t->k c t τ.H=some r->Q (.ref it) τ.s):wpAny M A (pyIter u) Q E σ.s:=by
 have fr:=σ.r.live _ (bu σ.s.heap)
 have seq:∀{D:Addr} {T:String} {vs:Array Value} {m c:Nat} {xs:List V} {t:It} (τ:VS) (o:Obj),Le dH σ τ->τ.s=σ.s->Bk σ τ a->t.itm=some xs->(τ.g.w D).ob=some {cls:=.type T,data:=.seq vs m}->c6 τ.g xs vs.toList->o.isFreed=false->
   (∀h,Heap.get? h σ.s.heap.objs.size=some o->T="tuple"/\h.IsTupleIter σ.s.heap.objs.size D 0\/T="list"/\h.IsListIter σ.s.heap.objs.size D 0)->k c t τ.H=some r->Q (.ref σ.s.heap.objs.size) {σ.s with heap:=σ.s.heap.push o}:=by
  intro D T vs m c xs t τ o l es bk h1 h2 h3 nf h4 e;refine cR (τ.mkIt nf) fun υ l2 eh e2 w2 g2=>?_;rw [es] at e2 w2 g2;refine aQ e2 ?_;have s2:sn τ dH:=fun Y q=>q.elim;exact hQ υ _ c t (l.trans l2) fr (bk.step l2) ⟨⟨o,w2⟩,.seq xs D T vs m 0 h1 (J ((l2.keep id h2).1)<|h2) (h3.up l2.g) (h4 _ g2) id⟩ (eh▸e)
 have lst:∀{i rs c},a=.ref i->σ.H.obj i=some (.list rs c)->wpAny M A (pyIter u) Q E σ.s:=by
  rintro i rs c rfl e1;delta bR hL at e;rw [iX e1] at e;refine bI (σ.list e1 ra) fun D vs n ρ hm hw hc ho ar=>J ρ ?_;have bv:∀h,be σ.H (.ref i) h=h.set i (.list rs c):=fun h=>by delta be hL;refine J (iX e1 _ _) ?_;rfl
  have lw:(σ.lend i D (.f {cls:=.type "list",data:=.seq vs n}) hw (.f _ ho)).g.w D=.f {cls:=.type "list",data:=.seq vs n}:=cQ _ _ _;have l:Le dH σ (σ.lend i D (.f {cls:=.type "list",data:=.seq vs n}) hw (.f _ ho)):=σ.lend_le;exact wpAny_pyIter_list (aU ho) (seq (t:=.l (bC rs)) _ _ l rfl (.lent (o:=.list rs c) rfl hm hw l lw (fun υ le h=>⟨rfl,hc,vs,n,h,ar.up le⟩) bv) rfl (by refine J lw ?_;rfl) (J (bq _)<|ar.up l.g) rfl (fun h q=>.inr ⟨rfl,_,q,rfl,rfl⟩) e)
 refine Or.elim (gL e) (fun ρ=>?_) fun e=>?_
 ·exact aI ρ fun i rs c e0 e1 e=>lst e0 e1
 ·refine Or.elim (bY e) (fun ρ=>?_) fun ρ=>?_
  ·obtain⟨xs,e1,e⟩:=ρ;refine Or.elim (Av e1) (fun ρ=>?_) fun e1=>?_
   ·subst ρ;refine aI (AA ra) fun D vs n ρ hw ar=>J ρ<|wpAny_pyIter_tuple (cG (σ.r.ex _ _ (by refine J hw ?_;rfl))) (seq σ _ (.refl _) rfl (.same (.refl _) fun Y=>rfl) rfl (by refine J hw ?_;rfl) ar rfl (fun h q=>.inl ⟨rfl,_,q,rfl,rfl⟩) e)
   ·refine Or.elim (yR e1) (fun ρ=>?_) fun ρ=>?_
    ·subst ρ;refine aI (Fe ra) fun D vs n ρ hw ar=>J ρ<|wpAny_pyIter_list (aU (σ.r.ex _ _ (by refine J hw ?_;rfl))) (seq σ _ (.refl _) rfl (.same (.refl _) fun Y=>rfl) rfl (by refine J hw ?_;rfl) ar rfl (fun h q=>.inr ⟨rfl,_,q,rfl,rfl⟩) e)
    ·exact aI ρ fun i rs c e0 e2 Y=>lst e0 e2
  ·obtain⟨_,e⟩:=ρ;refine Or.elim (D5 e) (fun ρ=>?_) fun e=>?_
   ·refine dy ρ fun lo hi ρ2 e=>?_;subst ρ2;refine xA (aW e) fun h1 e=>?_
    cases ra with
    |rng _ _ D t1 t2 t3 hw=>
    refine wpAny_pyIter_range (σ.r.ex _ _ (by refine J hw ?_;rfl)) (Az h1) ?_;refine cR (σ.mkIt rfl) fun υ l2 eh e2 w2 g2=>aQ e2<|hQ υ _ _ _ l2 fr (.same l2 fun Y=>rfl) ⟨⟨_,w2⟩,.rng lo hi ?_⟩ (eh▸e);obtain g2:=(rangeSize_one _ _)▸g2;exact g2
   ·refine Or.elim (ff e) (fun ρ=>?_) fun e=>?_
    ·refine aI ρ fun i es ep ρ3 e1 e=>?_;subst ρ3;refine bf (σ.dI e1 ra) fun D bn ρ hm hw nd ho ar=>J ρ<|bP (fG ho nd ar) fun kvs d1 Y b1=>?_;have bv:∀h,be σ.H (.ref i) h=h:=fun h=>by delta be hL gi;refine J (iX e1 _ _) ?_;dsimp only[dR];refine J (iX e1 _ _) ?_;rfl
     refine wpAny_pyIter_dict (dP G hw) d1<|cR (σ.mkIt rfl) fun υ l2 eh e2 w2 g2=>aQ e2<|hQ υ _ _ _ l2 fr (.same l2 bv) ⟨⟨_,w2⟩,.dct i D D 0 _ _ (l2.g.m _ _ hm) ⟨_,g2,rfl,by(refine J (aw _)<|aQ b1.length ?_);rfl⟩⟩ (eh▸e)
    ·refine Or.elim (se e) (fun ρ=>?_) fun e=>?_
     ·obtain⟨i,up,lid,cs,rfl,e1,e⟩:=ρ;obtain⟨_,D,rfl,hm,hw,_,rfl,vs,n,ho,ar⟩:=σ.obj e1 (fun q=>nomatch q) ra;obtain bv:∀h,be σ.H (.ref i) h=h.set i (.rows up lid cs):=fun h=>by delta be hL gi;refine J (iX e1 _ _) ?_;dsimp only[dR];refine J (iX e1 _ _) ?_;rfl
      have lw:(σ.lend i D (.f {cls:=.type "list",data:=.seq vs n}) hw (.f _ ho)).g.w D=.f {cls:=.type "list",data:=.seq vs n}:=cQ _ _ _;have l:Le dH σ (σ.lend i D (.f {cls:=.type "list",data:=.seq vs n}) hw (.f _ ho)):=σ.lend_le;exact wpAny_pyIter_list (aU ho) (seq _ _ l rfl (.lent (o:=.rows up lid cs) rfl hm hw l lw (fun υ le h=>⟨rfl,vs,n,h,ar.up le⟩) bv) rfl (by refine J lw ?_;rfl) (ar.up l.g) rfl (fun h q=>.inr ⟨rfl,_,q,rfl,rfl⟩) e)
     ·exact nn e
end
section
section
variable{A:Around}{E:Value->Shared->Prop}
theorem o9(hne:l≠it):∀(n i:Nat) (s:Shared) (Q:List Value->Shared->Prop),s.heap.IsListIter it l i->s.heap.IsList l items->i+n<=items.size->
  (∀h',h'.IsListIter it l (i+n)->Heap.SameBut it s.heap h'->Q ((items.toList.drop i).take n) {s with heap:=h'})->wpAny M A (draw (.ref it) n) Q E s
 |0,i,s,Q,hit,_,_,hQ=>by exact QD (by simpa using hQ s.heap hit (Heap.SameBut.refl ..))
 |n+1,i,s,Q,hit,hl,hle,hQ=>by
  have hlt:i < items.size:=ai 0x1810c7005000040185040043 rfl hle;refine QC (wpAny_pyNext_list_item hit hl (x:=items[i]) (by simp[hlt]) fun h₁ hit₁ hs₁=>?_);refine QC (QE (o9 hne n (i+1) _ _ hit₁ (hl.extBut hs₁.extBut hne) (ai 0x70431801400010071810c5000040003 rfl hle) fun h₂ hit₂ hs₂=>QD ?_));obtain hd:items.toList.drop i=items[i]::items.toList.drop (i+1):=by simp[List.drop_eq_getElem_cons,hlt]
  have:=hQ h₂ (by exact J (show i+(n+1)=i+1+n by exact QF (lin 0x1810c5000043180140000002 rfl _ _) (lin 0x431801401810c5000000002 rfl _ _))<|hit₂) (hs₁.trans hs₂);rw [hd,List.take_succ_cons] at this;exact this
theorem sH(hh:A.handled=none)(hl:s.heap.IsList l items)
  (hQ:∀h',Heap.ExtBut s.heap.objs.size s.heap h'->Q items.toList {s with heap:=h'}):wpAny M A (unpackItems (.ref l) items.size none) Q E s:=by
 have hlt:=an hl fun o ho Y=>QY (Heap.lt_size ho);delta unpackItems;refine QC ?_
 ·delta notIterableAtAll;refine QC (wpAny_specialOf hl.typeIs PySem.F.slot_list_iter.lookup ?_);refine QD ?_;simp only[Bool.false_eq_true,if_false];refine QC (QE (wpAny_pyIter_list hl ?_));refine QC (QE (o9 hlt items.size 0 _ _ ⟨_,Heap.get?_push_size _ rfl,rfl,rfl⟩ (hl.push _) (lin 0x51400c0000001 rfl _) fun h₁ hit₁ hs₁=>?_));have hall:List.take items.size (List.drop 0 items.toList)=items.toList:=by refine J List.drop_zero<|List.take_of_length_le (by simp)
  refine J hall<|J (QN (by simp)) ?_;obtain hl₁:=(hl.push _).extBut hs₁.extBut hlt;refine QC (QE (wpAny_pyNext_list_end hh hit₁ hl₁ (by simp) fun h₂ he₂=>?_));simp only[Option.isSome_none,Bool.false_eq_true,if_false];exact QD (hQ h₂ fun b o hb e=>he₂ b o hb (hs₁.extBut b o hb (Heap.get?_push_of_some _ e)))
end
variable{env:Env}
theorem vj(hh:A.handled=none)(e:jR σ.H a=some xs)(ra:VR σ.g a u)(hQ:∀τ vals,Le dH σ τ->τ.H=σ.H->c6 τ.g xs vals->Q vals τ.s):wpAny M A (unpackItems u xs.length none) Q E σ.s:=by
 refine aI (qe e ra) fun D vs n ρ ar ho=>J ρ ?_
 have go:∀h',Heap.ExtBut σ.s.heap.objs.size σ.s.heap h'->Q vs.toList {σ.s with heap:=h'}:=fun h' eb=>
  have gr:Grows σ.s.heap h':=fun b o ho=>eb b o (fun q=>by subst q;exact absurd (Heap.lt_size ho) (Nat.lt_irrefl _)) ho
  hQ (σ.jk gr σ.s.toks) _ (σ.jk_le gr _) rfl ar
 refine aQ (fX ar)<|Or.elim ho (fun ρ=>?_) fun g1=>?_
 ·exact xA ρ fun g1 Y=>wpAny_unpackItems_tuple hh (cG g1) go
 ·exact sH hh (aU g1) go
theorem cY{ex:Expr}{eI:List Expr}(c:aJ ex=true):assignEach (ex::eI) env=(false,assign ex env)::assignEach eI env:=by cases ex<;>first|exact d_ c|rfl
theorem te:∀{exs:List Expr},exs.all aJ=true->(assignEach exs env).length=exs.length/\(assignEach exs env).findIdx? (·.1)=none
 | [],_=>⟨rfl,rfl⟩
 |e::r,c=>by
  refine xA (aX (show(and (aJ e) (r.all aJ))=true from c)) fun c1 c2=>J (cY c1)<|xA (te c2) fun a b=>⟨congrArg Nat.succ a,?_⟩
  (refine J (List.findIdx?_cons) ?_;refine J b ?_);rfl
theorem tj(hh:A.handled=none)(hs:exs.all aJ=true)(e:jR σ.H a=some xs)(hl:xs.length=exs.length)(ra:VR σ.g a u)
  (hQ:∀τ vals,Le dH σ τ->τ.H=σ.H->c6 τ.g xs vals->wpAny M A (assignInOrder ((assignEach exs env).map (·.2)) vals) Q E τ.s):wpAny M A (assign (.Tuple exs ct pos) env u) Q E σ.s:=by
 refine J (arm_assign_Tuple _ _ _ _ _)<|QC (wpAny_standAt ?_);delta unpack;refine xA (te (env:=env) hs) fun l1 l2=>?_;refine J l1<|J l2<|aQ hl ?_;exact QC (QE (vj hh e ra hQ))
theorem we(c:AJ o=true):o=some .local\/o=some .cell:=by exact oq (P:=fun o=>o=some .local\/o=some .cell) c (fun Y=>.inl rfl) (fun Y=>.inr rfl) d_ d_
def Dx(σ:VS)(ns:cW)(env:Env)(m:Loc)(Q:Unit->Shared->Prop):Prop:=∀τ,Le (dF ns env) σ τ->τ.H=σ.H->Fr τ ns env m->Q () τ.s
theorem vP{ex:Expr}{c:Nat}(e:LZ ns ex=some c):∃z p,ex=.Name z p/\c=cS z/\(bK ns z=some .local\/bK ns z=some .cell):=by refine uO (P:=fun z=>z=some c->_) ex nn (fun z p ρ e=>?_) e;exact xA (aW e) fun h1 e=>⟨z,p,ρ,(sj e).symm,we h1⟩
theorem uw(ok:gu ns=true){ex:Expr}{c:Nat}(e:LZ ns ex=some c):c≠0:=by refine bV (vP e) fun z p ρ2 ρ3 ρ4=>aQ ρ2 ?_;subst ρ3;obtain q|q:=ρ4<;>exact(gI ok q).nz
theorem oP (ok:gu ns=true):∀{exs:List Expr} {cs:List Nat} {xs:List V} {m m':Loc},H9 ns exs=some cs->locs cs xs m=some m'->m 0=none->exs.all aJ=true/\xs.length=exs.length/\m' 0=none
 | [],cs,[],m,m',e,el,h0=>by obtain rfl:=sj e;exact bt el<|⟨rfl,rfl,h0⟩
 | [],cs,_::_,m,m',e,el,h0=>by obtain rfl:=sj e;exact nn el
 |ex::exs,cs,xs,m,m',e,el,h0=>by
  refine an (ah e) fun c e1 e=>an (ah e) fun cs e2 e=>?_;obtain rfl:=sj e
  cases xs with
  |nil=>exact nn el
  |cons v xs=>refine fp (oP ok e2 el ((bU (uw ok e1).symm m v).trans h0)) fun q1 q2 q3=>dy (vP e1) fun z p ρ Y=>?_;subst ρ;exact⟨q1,congrArg Nat.succ q2,q3⟩
theorem BB{ex:Expr}{c:Nat}{Q:Unit->Shared->Prop}(e:LZ ns ex=some c)(fr:Fr σ ns env m)(h0:m 0=none)(rv:VR σ.g v val)(hQ:Dx σ ns env (ae m c v) Q):wpAny M A (assign ex env val) Q E σ.s:=by
 refine bV (vP e) fun z p ρ2 ρ3 q=>J ρ2 ?_;subst ρ3;refine J (arm_assign_Name _ _ _ _)<|Or.elim q (fun q=>?_) fun q=>?_
 ·exact QC (wpAny_standAt (jE fr q (.inl rfl) rv hQ))
 ·exact QC (wpAny_standAt (jE fr q (.inr ⟨rfl,h0⟩) rv hQ))
theorem vK:∀{exs:List Expr} {cs:List Nat} {xs:List V} {vals:List Value} {σ:VS} {m m':Loc} {Q:Unit->Shared->Prop},H9 ns exs=some cs->locs cs xs m=some m'->Fr σ ns env m->m 0=none->c6 σ.g xs vals->Dx σ ns env m' Q->wpAny M A (assignInOrder ((assignEach exs env).map (·.2)) vals) Q E σ.s
 | [],cs,xs,vals,σ,m,m',Q,e,el,fr,h0,rv,hQ=>by
  obtain rfl:=sj e
  cases rv with
  |nil=>obtain rfl:=sj el;exact QD (hQ σ (.refl _) rfl fr)
  |cons=>exact nn el
 |ex::exs,cs,xs,vals,σ,m,m',Q,e,el,fr,h0,rv,hQ=>by
  refine an (ah e) fun c e1 e=>an (ah e) fun cs e2 e=>?_;obtain rfl:=sj e
  cases rv with
  |nil=>exact nn el
  | @cons v val xs vals r1 r2=>
   obtain ns1:aJ ex=true:=by refine dy (vP e1) fun z p ρ Y=>J ρ ?_;rfl
   refine J (cY ns1)<|(?_ :wpAny _ _ (holding vals (assign ex env val) >>= fun Y=>assignInOrder ((assignEach exs env).map (·.2)) vals) _ _ _);refine QC (QE (BB e1 fr h0 r1 fun τ l eh fr'=>?_));exact vK e2 el fr' ((bU (uw fr.ok e1).symm m v).trans h0) (c6.up l.g r2) fun υ l' eh' fr''=>hQ υ (l.trans l') (eh'.trans eh) fr''
theorem A5{ex:Expr}{tu:Bool}{cs:List Nat}{Q:Unit->Shared->Prop}(hh:A.handled=none)(e:rq ns ex=some (tu,cs))(el:wH tu cs σ.H v m=some m')(fr:Fr σ ns env m)(h0:m 0=none)(rv:VR σ.g v val)(hQ:Dx σ ns env m' Q):m' 0=none/\wpAny M A (assign ex env val) Q E σ.s:=by
 refine p_ (P:=fun z=>z=some (tu,cs)->_) ex (fun e=>?_) (fun ts k p ρ e=>?_) e
 rotate_left
 ·refine J ρ<|an (ah e) fun l e1 e=>?_;cases e;exact an (ah (show aj (jR σ.H v) (fun xs=>locs cs xs m)=some m' from el)) fun xs e2 el=>fp (oP fr.ok e1 el h0) fun q1 q2 q3=>⟨q3,tj hh q1 e2 q2 rv fun τ vals l eh rs=>vK e1 el (fr.le l) h0 rs fun υ l' eh' fr'=>hQ υ (l.wide.trans l') (eh'.trans eh) fr'⟩
 ·refine an (ah e) fun c e1 e=>?_;obtain⟨rfl,rfl⟩:=pj e;obtain rfl:=sj (show some (ae m c v)=some m' from el);exact⟨(bU (uw fr.ok e1).symm m v).trans h0,BB e1 fr h0 rv hQ⟩
end
section
variable{σ τ υ:VS}{ns sc:cW}{env:Env}
theorem iB(ns:cW)(z:Str):bK ns z=ns.lookup z:=by
 induction ns with
 |nil=>rfl
 |cons p r ih=>refine(?_ :@Bool.rec (fun Y=>Option NameKind) (bK r z) (some p.2) (Fast.sEq z p.1)=_);refine J List.lookup_cons<|J (DG _ _)<|J ih ?_;cases z == p.1<;>rfl
theorem uX{x:Nat}:∀{l:List Nat},ji l x=false->x ∉ l
 | [],_,h=>nomatch h
 |y::r,e,h=>by
  have e:@Bool.rec (fun Y=>Bool) (ji r x) true (Nat.beq y x)=false:=e;refine fE (Nat.beq y x) (fun q=>?_) fun q=>?_
  ·rw [q] at e;exact nomatch e
  ·rw [q] at e;refine mc h (fun ρ=>?_) fun h=>?_
   ·subst ρ;rw [Nat.beq_refl] at q;exact nomatch q
   ·exact uX e h
theorem qL:∀{l:List Nat},xz l=true->l.Nodup
 | [],_=>.nil
 |x::r,e=>by exact xA (aX (show(and (not (ji r x)) (xz r))=true from e)) fun h1 h2=>List.nodup_cons.mpr ⟨uX (tT h1),qL h2⟩
theorem oN(ok:gu sc=true):(sc.map (·.1)).Nodup:=by have h:=qL (aX ok).1;rw [show(sc.map fun p=>cS p.1)=(sc.map (·.1)).map cS by refine J QZ ?_;rfl] at h;exact(List.pairwise_map.mp h).imp fun n e=>n (congrArg cS e)
theorem iR:∀{sc:cW},k∈frees sc->∃z,(z,NameKind.free)∈sc/\cS z=k
 | [],h=>nomatch h
 |(z,kd)::r,h=>by
  have h:k∈ @Bool.rec (fun Y=>List Nat) (frees r) (cS z::frees r) (kd == .free):=h;refine fE (kd == NameKind.free) (fun q=>?_) fun q=>?_
  ·rw [q] at h;obtain this:=eq_of_beq q;refine J this<|pQ h ?_ fun h=>?_
   ·exact⟨z,.head _,rfl⟩
   ·exact an (iR h) fun y a b=>⟨y,.tail _ a,b⟩
  ·obtain h:=q▸h;exact an (iR h) fun y a b=>⟨y,.tail _ a,b⟩
theorem eY(nd:(sc.map (·.1)).Nodup)(h:(z,k)∈sc):bK sc z=some k:=by
 refine J (iB _ _) ?_
 induction sc with
 |nil=>exact nomatch h
 |cons p r ih=>
  rw [List.map_cons,List.nodup_cons] at nd;refine J List.lookup_cons<|mc h (fun ρ=>?_) fun h=>?_
  ·exact aQ ρ<|J (beq_self_eq_true _) rfl
  ·obtain this:(z == p.1)=false:=beq_eq_false_iff_ne.mpr fun q=>nd.1 (q▸List.mem_map.mpr ⟨_,h,rfl⟩);exact J this<|ih nd.2 h
theorem kG:∀{fr:List Nat} {l:List (Nat×V)} {k:Nat},fL m fr=some l->dJ l k=some v->k∈fr/\m k=some v
 | [],l,k,e,h=>by obtain rfl:=sj e;exact nn h
 |c::r,l,k,e,h=>by
  refine an (ah e) fun w e1 e=>an (ah e) fun l e2 e=>?_;obtain rfl:=sj e;have h:ae (dJ l) c w k=some v:=h;by_cases q:k=c
  ·subst q;rw [du] at h;exact bt h<|⟨.head _,e1⟩
  ·rw [bU q] at h;exact xA (kG e2 h) fun a b=>⟨.tail _ a,b⟩
theorem qG(ok:gu sc=true)(e:fL m (frees sc)=some l)(hz:bK sc z=some k)(h:dJ l (cS z)=some v):k=.free/\m (cS z)=some v:=by refine xA (kG e h) fun q1 q2=>an (iR q1) fun y h1 h2=>?_;have hy:=eY (oN ok) h1;obtain this:=jH (gI ok hy).ok (gI ok hz).ok h2;subst this;rw [hz] at hy;exact bt hy<|⟨rfl,q2⟩
theorem B3(ok:gu sc=true)(e:fL m (frees sc)=some l):dJ l 0=none:=by
 refine iS (dJ l 0) (fun q=>?_) fun v q=>?_
 ·rfl
 ·exact xA (kG e q) fun q1 Y=>an (iR q1) fun y h1 h2=>absurd h2 (gI ok (eY (oN ok) h1)).nz
theorem Db (c:y0 o=true):∃k,o=some k/\(k=.cell\/k=.free):=by exact oq (P:=fun o=>∃k,o=some k/\(k=.cell\/k=.free)) c d_ (fun Y=>⟨_,rfl,.inl rfl⟩) (fun Y=>⟨_,rfl,.inr rfl⟩) d_
theorem qH(cp:qD ns sc=true)(h:bK sc z=some .free):∃k,bK ns z=some k/\(k=.cell\/k=.free):=by obtain this:=List.all_eq_true.mp cp _ (dW h);exact Db (show y0 (bK ns z)=true from this)
noncomputable def fB(cells:List (Str×Addr))(l:cW)(bx:List (Str×Addr)):List (Str×Addr):=l.foldl (fun bx p=>if p.2 == .free then(p.1,(cells.lookup p.1).getD 0)::bx else bx) bx
theorem mh(h:∀x,bK scope.names x=some .free->(env.cells.lookup x).isSome=true)(nd:(scope.names.map (·.1)).Nodup):closureFor scope env=pure (fB env.cells scope.names []):=by
 delta closureFor
 obtain key:∀(l:cW) (bx:List (Str×Addr)),(∀x,(x,NameKind.free)∈l->(env.cells.lookup x).isSome=true)->
   (forIn l bx fun x r=>match x with
    |(name,kind)=>if(kind == NameKind.free)=true then do
      let a <-cellOf env name
      pure (ForInStep.yield ((name,a)::r))
     else pure (ForInStep.yield r):Sem (List (Str×Addr)))=pure (fB env.cells l bx):=by
  intro l
  induction l with
  |nil=>intro bx _;rfl
  |cons p r ih=>
   intro bx hl;obtain⟨x,k⟩:=p;refine J (List.forIn_cons _ _ _ _) ?_;delta fB;refine J List.foldl_cons ?_;by_cases c:(k == NameKind.free)=true
   ·obtain this:=eq_of_beq c;subst this;refine xE (Option.isSome_iff_exists.mp (hl x (.head _))) fun a ea=>?_;dsimp only;refine J (QM c) ?_;delta cellOf;exact J ea<|ih _ fun y hy=>hl y (.tail _ hy)
   ·dsimp only;refine J (QN c)<|J (QN c) ?_;exact ih _ fun y hy=>hl y (.tail _ hy)
 exact(bind_pure _).trans (key scope.names [] fun x hx=>h x (eY nd hx))
theorem ow(l:cW):∀(bx:List (Str×Addr)) (x:Str),(∀c,(x,c)∈bx->c=(cells.lookup x).getD 0)->((x,NameKind.free)∈l->(fB cells l bx).lookup x=some ((cells.lookup x).getD 0))/\((x,NameKind.free) ∉ l->(fB cells l bx).lookup x=bx.lookup x):=by
 obtain key:∀(bx:List (Str×Addr)) (x:Str) (d:Addr),(∀c,(x,c)∈bx->c=d)->(∃c,(x,c)∈bx)->bx.lookup x=some d:=by
  intro bx x d h1 h2
  induction bx with
  |nil=>exact h2.elim fun Y q=>nomatch q
  |cons p r ih=>
   refine J List.lookup_cons<|fE (x == p.1) (fun q=>?_) fun q=>?_
   ·exact J (h1 p.2 (J (eq_of_beq q)<| .head _)) rfl
   ·refine ih (fun c m=>h1 c (.tail _ m))<|xE h2 fun c m=>mc m (fun ρ=>?_) fun m=>?_
    ·subst ρ;rw [beq_self_eq_true] at q;exact nomatch q
    ·exact⟨c,m⟩
 induction l with
 |nil=>intro bx x h;exact⟨fun m=>(nomatch m),fun Y=>rfl⟩
 |cons p r ih=>
  intro bx x h;obtain⟨y,k⟩:=p;delta fB;refine J List.foldl_cons ?_;by_cases c:(k == NameKind.free)=true
  ·refine J (QM c) ?_;obtain hk:=eq_of_beq c;subst hk
   have h':∀c,(x,c)∈(y,(cells.lookup y).getD 0)::bx->c=(cells.lookup x).getD 0:=fun c m=>by
    refine mc m (fun ρ=>?_) fun m=>?_
    ·cases ρ;rfl
    ·exact h c m
   refine xA (ih _ x h') fun q1 q2=>⟨fun m=>?_,fun m=>?_⟩
   ·by_cases d:(x,NameKind.free)∈r
    ·exact q1 d
    ·refine mc m (fun ρ=>?_) fun m=>?_
     ·cases ρ;exact(q2 d).trans (key _ _ _ h' ⟨_,.head _⟩)
     ·exact absurd m d
   ·refine(q2 fun d=>m (.tail _ d)).trans<|J List.lookup_cons ?_;obtain this:(x == y)=false:=beq_eq_false_iff_ne.mpr fun q=>m (q▸ .head _);exact J this rfl
  ·refine J (QN c)<|xA (ih bx x h) fun q1 q2=>⟨fun m=>?_,fun m=>q2 fun d=>m (.tail _ d)⟩
   refine mc m (fun ρ=>?_) fun m=>?_
   ·cases ρ;exact absurd rfl c
   ·exact q1 m
theorem ze(nd:(sc.map (·.1)).Nodup)(e:(fB cells sc []).lookup z=some c):bK sc z=some .free/\c=(cells.lookup z).getD 0:=by
 refine xA (ow (cells:=cells) sc [] z (fun c m=>nomatch m)) fun h1 h2=>?_;by_cases q:(z,NameKind.free)∈sc
 ·rw [h1 q] at e;exact bt e<|⟨eY nd q,rfl⟩
 ·rw [h2 q] at e;exact nn e
theorem tD(h:bK sc z=some .free)(e:cells.lookup z=some c):(fB cells sc []).lookup z=some c:=by
 (refine J ((ow sc [] z (fun c m=>nomatch m)).1 (dW h))<|J e ?_);rfl
theorem hC:∀{l:cW} {x:Str} {k:NameKind},l.lookup x=some k->
  ∃k',(l.map fun(n,k)=>if(k == NameKind.free && env.scope.kind == .function && env.kindOf n == some .cell) then(n,NameKind.cell) else(n,k)).lookup x=some k'/\(k'=k\/(k=.free/\k'=.cell))
 | [],x,k,h=>nomatch h
 |(y,j)::r,x,k,h=>by
  refine J QV ?_;dsimp only;rw [List.lookup_cons] at h;by_cases c:(j == NameKind.free && env.scope.kind == .function && env.kindOf y == some .cell)=true
  ·refine J (QM c)<|J List.lookup_cons ?_;refine fE (x == y) (fun q=>?_) fun q=>?_
   ·rw [q] at h;exact bt h<|⟨.cell,rfl,.inr ⟨eq_of_beq (aX (aX c).1).1,rfl⟩⟩
   ·rw [q] at h;exact hC h
  ·refine J (QN c)<|J List.lookup_cons ?_;refine fE (x == y) (fun q=>?_) fun q=>?_
   ·rw [q] at h;exact bt h<|⟨_,rfl,.inl rfl⟩
   ·rw [q] at h;exact hC h
theorem uU:∀(l:cW) (n:Nat) (a b:List (Str×Addr)),cellsFrom n l (a++b)=cellsFrom n l a++b
 | [],n,a,b=>rfl
 |(x,k)::r,n,a,b=>by
  unfold cellsFrom;split
  ·exact uU r (n+1) ((x,n)::a) b
  ·exact uU r n a b
theorem uk:∀{l:cW} {n:Nat} {a:List (Str×Addr)} {x:Str} {c:Addr},(x,c)∈cellsFrom n l a->(x,c)∈a\/(x,NameKind.cell)∈l
 | [],n,a,x,c,h=>.inl h
 |(y,k)::r,n,a,x,c,h=>by
  unfold cellsFrom at h;split at h
  ·rename_i hk;refine Or.elim (uk h) (fun h=>?_) fun h=>?_
   ·refine mc h (fun ρ=>?_) fun h=>?_
    ·cases ρ;exact .inr (J (beq_iff_eq.mp hk)<| .head _)
    ·exact .inl h
   ·exact .inr (.tail _ h)
  ·exact(uk h).imp id (.tail _)
theorem iT:∀{a b:List (Str×α)} {x:Str},(a++b).lookup x=(a.lookup x).or (b.lookup x)
 | [],b,x=>rfl
 |(y,c)::a,b,x=>by
  refine J List.cons_append<|J List.lookup_cons<|J List.lookup_cons ?_;cases x == y
  ·exact iT
  ·rfl
theorem fV:∀(names:cW) (k:Nat) (bx:List (Str×Addr)) (x:Str),((x,NameKind.cell)∈names\/(bx.lookup x).isSome=true)->((cellsFrom k names bx).lookup x).isSome=true
 | [],k,bx,x,h=>h.elim (fun h=>nomatch h) id
 |(y,kd)::r,k,bx,x,h=>by
  have tl:∀{bx:List (Str×Addr)},(x,NameKind.cell)∈(y,kd)::r->(kd≠ .cell\/(bx.lookup x).isSome=true\/x≠y)->(x,NameKind.cell)∈r\/(bx.lookup x).isSome=true:=fun m q=>by
   refine mc m (fun ρ=>?_) fun m=>?_
   ·cases ρ;exact .inr (q.elim (fun q=>absurd rfl q) fun q=>q.elim id fun q=>absurd rfl q)
   ·exact .inl m
  unfold cellsFrom;split
  ·refine fV r (k+1) _ x ?_
   obtain this:((((y,k)::bx).lookup x).isSome=true)\/x≠y/\((y,k)::bx).lookup x=bx.lookup x:=by
    refine J List.lookup_cons<|fE (x == y) (fun q=>?_) fun q=>?_
    ·exact .inl rfl
    ·exact .inr ⟨beq_eq_false_iff_ne.mp q,rfl⟩
   refine Or.elim this (fun q=>?_) fun ρ=>?_
   ·exact .inr q
   ·exact xA ρ fun q1 q2=>J q2<|h.elim (fun m=>tl m (.inr (.inr q1))) .inr
  ·rename_i hc;exact fV r k _ x (h.elim (fun m=>tl m (.inl fun q=>hc (by refine J q ?_;rfl))) .inr)
theorem fW:∀{l:List (Str×α)} {x:Str} {c:α},l.lookup x=some c->(x,c)∈l
 | [],x,c,h=>nomatch h
 |(y,d)::r,x,c,h=>by
  rw [List.lookup_cons] at h;refine fE (x == y) (fun q=>?_) fun q=>?_
  ·rw [q] at h;exact bt h<|J (eq_of_beq q)<| .head _
  ·rw [q] at h;exact .tail _ (fW h)
theorem mT{l:List (Str×Addr)}(hp:l.Pairwise fun x y=>x.2≠y.2){x y:Str}{c d:Addr}(h1:(x,c)∈l)(h2:(y,d)∈l)(hn:x≠y):c≠d:=by
 induction hp with
 |nil=>exact nomatch h1
 |cons a _ ih=>
  cases h1 with
  |head=>
   refine mc h2 (fun ρ=>?_) fun h2=>?_
   ·cases ρ;exact absurd rfl hn
   ·exact a _ h2
  |tail _ h1=>
   refine mc h2 (fun ρ=>?_) fun h2=>?_
   ·subst ρ;exact(a _ h1).symm
   ·exact ih h1 h2
def VS.frm(σ:VS){h':Heap}(gr:Grows σ.s.heap h')(tk:Tok):VS:=⟨σ.sh h' tk,⟨σ.g.m,fun c=>@Option.rec Obj (fun Y=>Ow) (@Option.rec Obj (fun Y=>Ow) .free (fun o=>.f o) (h'.get? c)) (fun Y=>σ.g.w c) (σ.s.heap.get? c)⟩,σ.H,by
 have old:∀c,σ.s.heap.get? c≠none->@Option.rec Obj (fun Y=>Ow) (@Option.rec Obj (fun Y=>Ow) .free (fun o=>.f o) (h'.get? c)) (fun Y=>σ.g.w c) (σ.s.heap.get? c)=σ.g.w c:=fun c n=>by
  refine iS (σ.s.heap.get? c) (fun q=>?_) fun o q=>?_
  ·exact absurd q n
  ·rfl
 have e:σ.g.le ⟨σ.g.m,fun c=>@Option.rec Obj (fun Y=>Ow) (@Option.rec Obj (fun Y=>Ow) .free (fun o=>.f o) (h'.get? c)) (fun Y=>σ.g.w c) (σ.s.heap.get? c)⟩:=⟨fun Y Y e=>e,fun c o q=>(old c fun z=>by rw [σ.r.live c z] at q;exact Ow.noConfusion q).trans q⟩
 refine σ.r.gen (fun c=>σ.s.heap.get? c=none) e (fun c n=>old c n) (fun c n m=>σ.r.same gr c m) (fun c q=>⟨fun o z=>(by rw [σ.r.live c q] at z;exact Ow.noConfusion z),fun z=>(by rw [σ.r.live c q] at z;exact Ow.noConfusion z)⟩) (fun c q=>?_) σ.r.new rfl fun k o e=>.inr (.inr ⟨e,fun c q z=>by rw [σ.r.live c q] at z;exact Ow.noConfusion z⟩);dsimp only;refine J q ?_;dsimp only
 cases z:h'.get? c with
 |none=>exact⟨fun o e=>nn e,fun Y=>rfl⟩
 |some o=>exact⟨fun o' e=>e,fun e=>nn e.symm⟩⟩
theorem VS.frm_at{gr:Grows σ.s.heap h'}{tk:Tok}{o:Obj}(n:σ.s.heap.get? c=none)(e:h'.get? c=some o):(σ.frm gr tk).g.w c=.f o:=by refine(?_ :@Option.rec Obj (fun Y=>Ow) (@Option.rec Obj (fun Y=>Ow) .free (fun o=>.f o) (h'.get? c)) (fun Y=>σ.g.w c) (σ.s.heap.get? c)=_);exact J n<|J e rfl
theorem VS.frm_old{gr:Grows σ.s.heap h'}{tk:Tok}(n:σ.s.heap.get? c≠none):(σ.frm gr tk).g.w c=σ.g.w c:=by
 refine(?_ :@Option.rec Obj (fun Y=>Ow) (@Option.rec Obj (fun Y=>Ow) .free (fun o=>.f o) (h'.get? c)) (fun Y=>σ.g.w c) (σ.s.heap.get? c)=_);refine iS (σ.s.heap.get? c) (fun q=>?_) fun o q=>?_
 ·exact absurd q n
 ·rfl
theorem VS.frm_le{tk:Tok}:Le P σ (σ.frm gr tk):=by have k:∀{c},σ.g.w c≠ .free->(σ.frm gr tk).g.w c=σ.g.w c:=fun{c} n=>VS.frm_old fun q=>n (σ.r.live c q);exact⟨⟨fun Y Y e=>e,fun c o e=>(k (J e<|Ow.noConfusion)).trans e⟩,fun b o e Y=>(k (J e<|Ow.noConfusion)).trans e,rfl⟩
noncomputable abbrev jF(scope:Scope)(env:Env)(C:Addr):Env:={scope:=relabel scope env,locals:=C,globals:=env.globals,cells:=cellsFrom (C+1) scope.names []++fB env.cells scope.names [],qual:=env.qual,func:=none,code:=env.code,frame:=env.frame,builtins:=env.builtins}
theorem yu
  (hQ:∀h',Grows s.heap h'->h'.Ns s.heap.objs.size (fun Y=>none)->CellsOk h' (s.heap.objs.size+1) (cellsFrom (s.heap.objs.size+1) scope.names [])->
   Q {scope,locals:=s.heap.objs.size,globals:=env.globals,cells:=cellsFrom (s.heap.objs.size+1) scope.names []++cl,qual:=env.qual,func:=none,code:=env.code,frame:=env.frame,builtins:=env.builtins} {s with heap:=h'}):
  wpAny M A (newFunctionEnv scope env.globals cl [] env.qual none .none (some env)) Q E s:=by
 simp only[newFunctionEnv,Option.isSome_some,if_true];refine QC (wpAny_alloc ?_);refine QC (wpAny_layCells _ (fun name kind cells=>by cases hkc:kind == NameKind.cell<;>simp[hkc]) _ _ _ _ ?_);have ok:=cellsFrom_ok scope.names (s.heap.push {cls:=.type "dict",data:=.dict #[]}) (s.heap.objs.size+1) [] ⟨fun Y Y hm=>(nomatch hm),List.Pairwise.nil⟩ (J (Heap.size_push _ _)<|QR _);obtain ok:=(Heap.size_push _ _)▸ok;refine J (show({s with heap:=s.heap.push {cls:=.type "dict",data:=.dict #[]}}:Shared).heap.objs.size=s.heap.objs.size+1 from Heap.size_push ..)<|J List.forIn_nil<|QC (QD (QD ?_));have:=hQ (pushCells (s.heap.push {cls:=.type "dict",data:=.dict #[]}) scope.names) (fun b o e=>pushCells_keeps _ _ b o (Heap.get?_push_of_some _ e)) ((Heap.Ns.new s.heap (.type "dict")).keeps (pushCells_keeps _ _)) ok;obtain this:=(uU _ _ _ _)▸this;exact this
theorem DT{l:List (Nat×V)}(ok:gu scope.names=true)(kind:scope.kind=.function)(cp:qD ns scope.names=true)(f:Fr σ ns env m)(em:fL m (frees scope.names)=some l){h':Heap}(gr:Grows σ.s.heap h')(tk:Tok)(hn:h'.Ns σ.s.heap.objs.size fun Y=>none)(ck:CellsOk h' (σ.s.heap.objs.size+1) (cellsFrom (σ.s.heap.objs.size+1) scope.names [])):
  Fr (σ.frm gr tk) scope.names (jF scope env σ.s.heap.objs.size) (dJ l)/\(∀b,iV scope.names (jF scope env σ.s.heap.objs.size) b->σ.s.heap.get? b=none\/iV ns env b)/\(∀b,dF scope.names (jF scope env σ.s.heap.objs.size) b->σ.s.heap.get? b=none):=by
 have nd:=oN ok;have lf:Le dH σ (σ.frm gr tk):=σ.frm_le;have own:∀x a,(cellsFrom (σ.s.heap.objs.size+1) scope.names []).lookup x=some a->(x,a)∈cellsFrom (σ.s.heap.objs.size+1) scope.names []/\bK scope.names x=some .cell/\σ.s.heap.objs.size < a/\σ.s.heap.get? a=none/\h'.IsCell a none:=fun x a e=>by have hm:=fW e;exact xA (ck.empty x a hm) fun z1 z2=>⟨hm,eY nd ((uk hm).resolve_left fun q=>nomatch q),z2,i_ (ai 0x1810c5000040185040002 rfl z2),z1⟩
 have look:∀x a,(fB env.cells scope.names []).lookup x=some a->bK scope.names x=some .free/\∃k,(k=.cell\/k=.free)/\bK ns x=some k/\env.cells.lookup x=some a/\rn σ m x k a:=by intro x a e;refine xA (ze nd e) fun q ea=>an (qH cp q) fun k h1 h2=>an (f.cel x k h1 h2) fun b hb rb=>?_;obtain ea:=hb▸ea;exact J ea<|⟨q,k,h2,h1,hb,rb⟩
 have zv:∀x a,(jF scope env σ.s.heap.objs.size).cells.lookup x=some a->(cellsFrom (σ.s.heap.objs.size+1) scope.names []).lookup x=some a\/(fB env.cells scope.names []).lookup x=some a:=fun x a e=>by
  replace e:(cellsFrom (σ.s.heap.objs.size+1) scope.names []++fB env.cells scope.names []).lookup x=some a:=e;rw [iT] at e;refine iS ((cellsFrom (σ.s.heap.objs.size+1) scope.names []).lookup x) (fun q=>?_) fun c q=>?_
  ·obtain e:=q▸e;exact .inr e
  ·rw [q] at e;exact .inl e
 obtain there:∀{x k a},rn σ m x k a->∃o,σ.s.heap.get? a=some o:=fun r=>xE r.ob fun o e=>⟨o,σ.r.ex _ _ e⟩
 have fresh:∀{x k a},rn σ m x k a->σ.s.heap.get? a≠none:=fun r q=>by refine xE (there r) fun o ho=>?_;obtain ho:=q▸ho;exact nn ho
 refine⟨⟨kind,f.gl,f.bi,ok,fun x k e=>hC (aQ (iB _ _)<|e),?_,⟨_,hn,fun x v a b=>?_⟩,fun x k a b=>?_,fun x a e=>⟨?_,fun y a' e' ne=>?_⟩⟩,fun b hb=>?_,fun b hb=>?_⟩
 ·exact m5 hn fun o es ep ho Y=>⟨o,σ.frm_at (bu _) ho⟩
 ·exact NameKind.noConfusion ((qG ok em a b).1)
 ·refine Or.elim b (fun ρ=>?_) fun ρ=>?_
  ·subst ρ;refine xE (Option.isSome_iff_exists.mp (fV scope.names (σ.s.heap.objs.size+1) [] x (.inl (dW a)))) fun a' ea=>ez (own x a' ea) fun Y Y Y hn' ψ0=>an ψ0 fun o' ho' hd'=>⟨a',?_,⟨o',by refine J (σ.frm_at hn' ho') ?_;rfl⟩,fun Y=>.inl ⟨o',σ.frm_at hn' ho'⟩,none,⟨o',ho',hd'⟩,fun v hm=>?_⟩
   ·refine(?_ :(cellsFrom (σ.s.heap.objs.size+1) scope.names []++fB env.cells scope.names []).lookup x=some a');(refine J iT<|J ea ?_);rfl
   ·exact NameKind.noConfusion ((qG ok em a hm).1)
  ·subst ρ;refine an (qH cp a) fun k h1 h2=>an (f.cel x k h1 h2) fun cc hcc rc=>⟨cc,?_,?_⟩
   ·refine(?_ :(cellsFrom (σ.s.heap.objs.size+1) scope.names []++fB env.cells scope.names []).lookup x=some cc);refine J iT<|iS ((cellsFrom (σ.s.heap.objs.size+1) scope.names []).lookup x) (fun q=>?_) fun c' q=>?_
    ·exact tD a hcc
    ·rw [(own x c' q).2.1] at a;cases a
   ·obtain⟨⟨o,eo⟩,_,v₀,ic,hv⟩:=rc;exact xA (lf.keep id eo) fun q1 q2=>⟨⟨o,q1▸eo⟩,fun q=>(nomatch q),v₀,iZ ic q2,fun v hm=>(hv v (qG ok em a hm).2).imp fun val q=>⟨q.1,q.2.mono lf.g⟩⟩
 ·refine Or.elim (zv x a e) (fun q=>?_) fun q=>?_
  ·exact Nat.ne_of_gt (own x a q).2.2.1
  ·exact kK (look x a q) fun Y k Y Y Y rc=>fun q=>fresh rc (q▸bu _)
 ·rcases zv x a e with q|q<;>rcases zv y a' e' with q'|q'
  ·exact mT ck.apart (own x a q).1 (own y a' q').1 ne
  ·exact kK (look y a' q') fun Y k Y Y Y rc=>fun q2=>fresh rc (q2▸(own x a q).2.2.2.1)
  ·exact kK (look x a q) fun Y k Y Y Y rc=>fun q2=>fresh rc (q2▸(own y a' q').2.2.2.1)
  ·exact kK (look x a q) fun Y k Y Y z Y=>kK (look y a' q') fun Y k' Y Y z' Y=>(f.apart x a z).2 y a' z' ne
 ·refine Or.elim hb (fun ρ=>?_) fun ρ=>?_
  ·exact J ρ<| .inl (bu _)
  ·refine bV ρ fun x k hx hk e=>Or.elim (zv x b e) (fun q=>?_) fun q=>?_
   ·exact .inl (own x b q).2.2.2.1
   ·exact kK (look x b q) fun Y k' h1 h2 h3 Y=>.inr (.inr ⟨x,k',h2,h1,h3⟩)
 ·refine Or.elim hb (fun ρ=>?_) fun ρ=>?_
  ·exact J ρ<|bu _
  ·refine an ρ fun x hx e=>Or.elim (zv x b e) (fun q=>?_) fun q=>?_
   ·exact(own x b q).2.2.2.1
   ·rw [(look x b q).1] at hx;cases hx
end
theorem uM(I:Nat->Shared->Prop)
  (turn:∀n s,I n s->∀E,wpAny M A (pyNext it) (fun r s₁=>match r with
   |none=>R (.ok .next) s₁
   |some v=>wpAny M A (letOwnedTupleGo target it v) (fun Y s₁=>wpAny M A (assign target env v) (fun Y s₂=>
     wpAny M A (forIn ifs true fun c r=>if r=true then do let ok <-PySem.isTrue c env (eval c env);pure (ForInStep.yield ok) else pure (ForInStep.yield r)) (fun ok s₃=>
      if ok=true then wpAny M A (eval elt env) (fun x s₄=>
       wpAny M A (PySem.call (.builtin "list.append") [bx,x]) (fun Y s₅=>∃m,m < n/\I m s₅) E s₄) E s₃
      else∃m,m < n/\I m s₃) E s₂) E s₁) E s₁) E s)
  (n:Nat)(h:I n s):codeAny M A (.compLoop (.ListComp elt [⟨target,iter,ifs,0⟩] scope pos) 0 it bx env) R s:=by
 refine codeAny_loop rfl I (fun n s hI=>?_) n h;refine(?_ :wpAny _ A ((compTurn (.ListComp elt [⟨target,iter,ifs,0⟩] scope pos) 0 it bx env).onRaise (fun x=>do noteFrame x env;theTreesLotGoes x)) _ _ s);refine wpAny_noted<|J (compTurn_list _ _ _ _ _ _ _ _ _)<|QC (wpAny_standAt (QC (wpAny_mono (turn n s hI _) (fun r s₁ h₁=>?_) fun Y Y h'=>h')))
 cases r with
 |none=>exact QD h₁
 |some v=>
  refine QC (wpAny_mono h₁ (fun Y s₁' h₁'=>?_) fun Y Y h'=>h');refine QC (wpAny_mono h₁' (fun Y s₂ h₂=>QC (wpAny_mono h₂ (fun ok s₃ h₃=>?_) fun Y Y h'=>h')) fun Y Y h'=>h')
  cases ok with
  |false=>exact QD ⟨rfl,h₃⟩
  |true=>exact QC (QC (wpAny_mono h₃ (fun x s₄ h₄=>QC (wpAny_mono h₄ (fun Y s₅ h₅=>QD (QD ⟨rfl,h₅⟩)) fun Y Y h'=>h')) fun Y Y h'=>h'))
theorem yX{it:Value}:letOwnedTupleGo xt it u=pure ()\/letOwnedTupleGo xt it u=letOwnedTupleGo (.List [] ⟨0,0,0,0⟩) it u:=by cases xt<;>first|exact .inl rfl|exact .inr rfl
theorem wh{X:Addr->Prop}(x:uN σ X it t){Q:Unit->Shared->Prop}(h:Q () σ.s):wpAny M A (letOwnedTupleGo xt (.ref it) u) Q E σ.s:=by
 have key:wpAny M A (do
   let o <-load it
   match o.cls,o.data with
   |.type n,.fields vs=>
    if(["enumerate","zip","dict_itemiterator","dict_reverseitemiterator","odict_iterator","itertools.zip_longest","itertools.pairwise"].contains n && vs[0]? == some (match u with|.ref a=>rawInt a|_=>.none))=true then do
     rule "for.unpacks-the-owned-tuple"
     updateField it 0 .none
    else pure ()
   |_,_=>pure ()) Q E σ.s:=by
  cases x.r with
  |seq xs D T vs m i h1 h2 h3 h4 _=>rcases h4 with⟨_,o',ho,hc,hd⟩|⟨_,o',ho,hc,hd⟩<;>(refine QC (wpAny_load ho ?_);(refine J hc<|J hd ?_);exact QD h)
  |rng lo hi q=>exact QC (wpAny_load q (QD h))
  |dct k D d i n ep h1 q=>refine bP q fun o ho hc hd=>?_;refine QC (wpAny_load ho ?_);(refine J hc<|J hd ?_);exact QD h
 refine(yX (xt:=xt) (it:=.ref it) (u:=u)).elim (fun q=>?_) fun q=>?_ <;>refine J q ?_
 ·exact QD h
 ·cases u<;>first|exact key|exact QD h
theorem Io{X:Addr->Prop}(x:uN σ X it t){Q:Value->Shared->Prop}(h:Q (.ref it) σ.s):wpAny M A (pyIter (.ref it)) Q E σ.s:=by
 cases x.r with
 |seq xs D T vs m i h1 h2 h3 h4 _=>
  refine Or.elim h4 (fun ρ=>?_) fun ρ=>?_
  ·exact xA ρ fun Y q=>wpAny_pyIter_tupleiter q h
  ·exact xA ρ fun Y q=>wpAny_pyIter_listiter q h
 |rng lo hi q=>exact wpAny_pyIter_rangeiter q h
 |dct k D d i n ep h1 q=>exact wpAny_pyIter_keyiter q h
theorem jG{ex:Expr}(c:gw ex=false)(x:Value):foldedSetIterable ex env x=pure x:=by cases ex<;>first|exact Bool.noConfusion c|rfl
def Ba(n:Nat)(ns:cW)(f:SE)(ifs:List Expr):Prop:=∀A,bZ n A->∀σ env m,Fr σ ns env m->∀k r,f m σ.H k=some r->∀(Q:Bool->Shared->Prop) E,xY σ k r Q->
 wpAny M A (forIn ifs true fun c r=>if r=true then do let ok <-PySem.isTrue c env (eval c env);pure (ForInStep.yield ok) else pure (ForInStep.yield r)) Q E σ.s
noncomputable abbrev lX(vs:Array Value)(k:Nat):Obj:={cls:=.type "list",data:=.seq vs k}
structure CI(σ:VS)(sc:cW)(cX:Env)(I D:Addr)(t:It)(m:Loc)(bx:List V)(c:Nat):Prop where
 fr:Fr σ sc cX m
 nz:m 0=none
 it:uN σ (· =D) I t
 d:∃vs k,σ.g.w D=.f (lX vs k)/\c6 σ.g bx.reverse vs.toList
 len:c=bx.length
def CA(sc:cW)(cX:Env)(I D:Addr)(b:Addr):Prop:=dF sc cX b\/b=I\/b=D
theorem CI.le(x:CI σ sc cX I D t m bx c)(l:Le dH σ τ):CI τ sc cX I D t m bx c:=by obtain⟨fr,nz,it,⟨vs,k,d1,d2⟩,len⟩:=x;exact⟨fr.le l,nz,it.le l id fun Y q=>q.elim,⟨vs,k,l.f _ _ d1 id,d2.up l.g⟩,len⟩
theorem xJ(hA:bZ n A)(hc:rq sc xt=some (tu,ts))(ic:Ba n sc cd ifs)(ie:a9 n sc el xe)(oI:¬iV sc cX I)(oD:¬iV sc cX D)(ne:I≠D){K:List V->Nat->Hp->KX}{bx:List V}{c cnt:Nat}(x:CI σ sc cX I D t m bx c)(e:d8 tu ts cd el cnt t m σ.H bx c K=some r)
  (fin:∀τ rs c vs k mm,Le (CA sc cX I D) σ τ->Fr τ sc cX mm->τ.g.w D=.f (lX vs k)->c6 τ.g rs.reverse vs.toList->c=rs.length->K rs c τ.H=some r->R (.ok .next) τ.s):
  codeAny M A (.compLoop (.ListComp xe [⟨xt,xi,ifs,0⟩] scope pos) 0 (.ref I) (.ref D) cX) R σ.s:=by
 let Inv:Nat->Shared->Prop:=fun k s1=>∃τ t m bx c,s1=τ.s/\Le (CA sc cX I D) σ τ/\CI τ sc cX I D t m bx c/\d8 tu ts cd el k t m τ.H bx c K=some r;refine uM Inv (fun k s1 hi E=>?_) cnt ⟨σ,t,m,bx,c,rfl,.refl _,x,e⟩;obtain⟨τ,t,m,bx,c,rfl,l,⟨fr,nz,it,⟨vs,kk,d1,d2⟩,len⟩,e⟩:=hi;have onlyI:∀{υ},Le (· =I) τ υ->Le (CA sc cX I D) τ υ/\Fr υ sc cX m/\υ.g.w D=.f (lX vs kk):=fun l1=>⟨l1.incl fun b q=>.inr (.inl q),fr.leO l1 fun b hb q=>oI (q▸hb),l1.f _ _ d1 fun q=>ne q.symm⟩
 have ends:K bx c τ.H=some r->∀υ,Le (· =I) τ υ->υ.H=τ.H->R (.ok .next) υ.s:=fun e υ l1 eh=>by exact fp (onlyI l1) fun l2 f2 w2=>fin υ bx c vs kk m (l.trans l2) f2 w2 (d2.up l1.g) len (eh▸e)
 cases k with
 |zero=>replace e:eQ t τ.H (K bx c τ.H) (fun Y Y=>none)=some r:=e;exact qF hA.h it e (fun υ v t' val Y Y Y Y e=>nn e) fun υ l1 eh e=>ends e υ l1 eh
 |succ k=>
  replace e:eQ t τ.H (K bx c τ.H) (fun v t=>ag (wH tu ts τ.H v m) fun m=>cd m τ.H fun b h=>ag (vBool b) fun b=>ay b (el m h fun x h=>ay (Nat.blt c 60000) (d8 tu ts cd el k t m h (x::bx) (Nat.succ c) K) none) (d8 tu ts cd el k t m h bx c K))=some r:=e;refine qF hA.h it e (fun υ v t' val l1 eh it' rv e=>?_) fun υ l1 eh e=>ends e υ l1 eh;refine fp (onlyI l1) fun l2 f2 w2=>wh it'<|an (aZ e) fun m' e1 e=>xA (A5 (E:=E) (Q:=fun Y Y=>True) hA.h hc (eh▸e1) f2 nz rv fun Y Y Y Y=>trivial) fun nz' hw=>(A5 hA.h hc (eh▸e1) f2 nz rv fun Y l3 eh3 f3=>?_).2
  (obtain e:=eh▸e;obtain e:=eh3▸e)
  have w3:=l3.f _ _ w2 fun q=>oD q.has;obtain it3:=it'.le l3 (fun q=>oI q.has) fun b q=>.inr (f2.noSeq b q);obtain l03:=(l.trans l2).trans (l3.incl fun b q=>.inl q);refine ic A hA Y cX m' f3 _ r e _ _ fun φ b l4 e=>?_;have d4:=((d2.up l1.g).up l3.g).up l4.g;have x4:CI φ sc cX I D t' m' bx c:=⟨f3.le l4,nz',it3.le l4 id fun Y q=>q.elim,⟨vs,kk,l4.f _ _ w3 id,d4⟩,len⟩
  have l04:=l03.trans l4.wide;replace e:ay b (el m' φ.H fun x h=>ay (Nat.blt c 60000) (d8 tu ts cd el k t' m' h (x::bx) (Nat.succ c) K) none) (d8 tu ts cd el k t' m' φ.H bx c K)=some r:=e
  cases b with
  |false=>refine J (QN Bool.false_ne_true) ?_;exact⟨k,Nat.lt_succ_self _,φ,t',m',bx,c,rfl,l04,x4,e⟩
  |true=>
   refine J (QM rfl)<|ie A hA φ cX m' x4.fr _ r e _ _ fun ψ xv uv l5 ru e=>xA (eA e) fun hlt e=>?_;obtain⟨f5,_,it5,_,_⟩:=x4.le l5;have w5:=l5.f _ _ (l4.f _ _ w3 id) id;have d5:=d4.up l5.g;have sz:=fX d5
   (obtain sz:=QL▸sz;obtain sz:=len▸sz)
   refine append_at (ψ.r.ex D _ (by refine J w5 ?_;rfl)) (fun h' sb hD=>?_) (dc (by obtain this:=QG hlt;exact ai 0xea60106080040185001080010000105080002 rfl sz this));let ρ:VS:=ψ.put D (.f (lX (vs.push uv) (kk+1))) ψ.s.toks ⟨.inr ⟨_,w5⟩⟩ (fun b n Y=>sb.2 b n) (.f _ hD);have l6:Le (· =D) ψ ρ:=ψ.put_le (.inr rfl);refine⟨k,Nat.lt_succ_self _,ρ,t',m',xv::bx,Nat.succ c,rfl,(l04.trans l5.wide).trans (l6.incl fun b q=>.inr (.inr q)),⟨f5.leO l6 fun b hb q=>oD (q▸hb),nz',it5.le l6 ne fun b q=>.inl q,⟨_,_,cQ _ _ _,?_⟩,congrArg Nat.succ len⟩,e⟩
   ·refine J List.reverse_cons<|J Array.toList_push ?_;exact(d5.up l6.g).app (.cons (ru.mono l6.g) .nil)
section
variable{r:V×Hp}
theorem VS.fixD(σ:VS)(w:σ.g.w D=.f (lX vs kk))(a:c6 σ.g rs.reverse vs.toList)(len:c=rs.length)(e:ay mu (dt σ.H (.list rs c) k) (k (.fl (bC rs)) σ.H)=some r):
  ∃τ v,Le (· =D) σ τ/\τ.s=σ.s/\VR τ.g v (.ref D)/\k v τ.H=some r:=by
 have ho:=σ.r.ex D _ (by refine J w ?_;rfl);have op:pX σ.g D:=⟨.inr ⟨_,w⟩⟩
 cases mu with
 |false=>refine⟨σ.put D (.g (lX vs kk)) σ.s.toks op (fun Y Y Y=>rfl) (.g _ ho),_,σ.put_le (.inr rfl),rfl,lr (cQ _ _ _) ?_,e⟩;exact J (bq _)<|a.up (Mine.Internal.put_le op.ng)
 |true=>replace e:dt σ.H (.list rs c) k=some r:=e;rw [fA] at e;have ln:σ.s.heap.get? D≠none:=J ho<|fun q=>nn q.symm;exact⟨σ.mk1 D D (.list rs c) σ.s.toks op op (fun Y Y Y Y=>rfl) ln ln ⟨rfl,len,vs,kk,ho,a.up (iw (.inl (σ.r.new _ (QR _))) op.ng op.ng)⟩,_,σ.mk1_le (.inr rfl) (.inr rfl),rfl,.ref _ _ _ (m9 _ _ _),e⟩
theorem iY(l:Le dH σ τ)(h:τ.g.w c=.free):∀o,σ.g.w c≠ .f o:=fun o e=>by rw [l.f c o e id] at h;exact Ow.noConfusion h
theorem qZ(C:Cx)(hA:bZ n A)(ii:a9 n ns ei xi)(hc:rq scope.names xt=some (tu,ts))(ic:Ba n scope.names cd ifs)(ie:a9 n scope.names el xe)(ok:gu scope.names=true)(kind:scope.kind=.function)(cp:qD ns scope.names=true)(cs:gw xi=false)
  (fr:Fr σ ns env m){k:KV}(e:kY mu (frees scope.names) tu ts ei cd el m σ.H k=some r){use:Option (Value->Sem Unit)}{Q:Value->Shared->Prop}
  (fin:∀τ C D v,Le dH σ τ->(∀b,iV ns env b->b≠C)->(∃o,τ.g.w C=.f o)->(∃L,τ.s.heap.Ns C L)->(∀o,σ.g.w C≠ .f o)->VR τ.g v (.ref D)->k v τ.H=some r->compPost M A E use Q (.ref D) C (.ok .next) τ.s):
  wpAny M A (comprehension (.ListComp xe [⟨xt,xi,ifs,0⟩] scope pos) scope env p2 (newList []) false (eval xi env) use) Q E σ.s:=by
 have nd:=oN ok;refine wpAny_comprehension_free rfl (fun x=>jG cs x) (mh (fun x hx=>?_) nd) kind (fun x hx hk=>?_) (ii A hA σ env m fr _ r e _ E fun τ1 a u l1 ra e=>?_)
 ·refine an (qH cp hx) fun k' h1 h2=>an (fr.cel x k' h1 h2) fun b hb Y=>J hb ?_;rfl
 ·refine aQ (iB _ _) ?_;obtain⟨x,k'⟩:=x;dsimp only at hk;exact aQ hk<|eY nd hx
 ·refine an (aZ e) fun l em e=>?_;have fr1:=fr.le l1;refine zQ C.G e ra fun τ2 I cnt t l2 fI bk it2 e=>?_;have fr2:=fr1.le l2;refine wpAny_newObj_type ?_ (by exact dc (Nat.zero_le _));have hDl:(τ2.s.heap.push (lX #[] 0)).get? τ2.s.heap.objs.size=some (lX #[] 0):=Heap.get?_push_size _ rfl;let τ3:VS:=τ2.psh (lX #[] 0) (.f (lX #[] 0)) τ2.s.toks (.f _ hDl);have l3:Le dH τ2 τ3:=τ2.psh_le;refine yu (s:=τ3.s) fun h4 g4 hns ok4=>?_;let τ4:VS:=τ3.frm g4 τ3.s.toks;have l4:Le dH τ3 τ4:=τ3.frm_le;refine fp (DT ok kind cp (fr2.le l3) em g4 τ3.s.toks hns ok4) fun frC hasC ownC=>?_;obtain wD:=l4.f _ _ (cQ _ _ _) id;obtain szD:τ3.s.heap.objs.size=τ2.s.heap.objs.size+1:=Heap.size_push ..
  have no2:∀{b},τ3.s.heap.get? b=none->τ2.g.w b=.free:=fun{b} q=>by
   cases z:τ2.g.w b with
   |free=>rfl
   |_=>exact absurd (τ2.r.live b (by
     cases y:τ2.s.heap.get? b with
     |none=>rfl
     |some o=>rw [show τ3.s.heap.get? b=some o from Heap.get?_push_of_some _ y] at q;exact nn (Eq.symm q))) (J z<|Ow.noConfusion)
  have nf:∀{b},τ2.g.w b=.free->∀o,σ.g.w b≠ .f o:=fun q=>iY (l1.trans l2) q;have fD:=τ2.r.live _ (bu _);have fC:=no2 (bu _);obtain nI:¬iV ns env I:=fun q=>by refine an (fr1.has q) fun o eo Y=>?_;rw [fI] at eo;exact nn eo
  obtain nD:¬iV ns env τ2.s.heap.objs.size:=fun q=>by refine an (fr2.has q) fun o eo Y=>?_;rw [fD] at eo;exact nn eo
  have offs:∀b,¬iV ns env b->τ3.s.heap.get? b≠none->¬iV scope.names (jF scope env τ3.s.heap.objs.size) b:=fun b q1 q2 q=>(hasC b q).elim q2 q1;refine xE it2.w fun oI wI=>?_;have hI:=τ2.r.ex I oI (by refine J wI ?_;rfl);obtain nID:=QY (Heap.lt_size hI);obtain nCD:τ3.s.heap.objs.size≠τ2.s.heap.objs.size:=J szD<|Nat.succ_ne_self _;have it4:=((it2.old (bu _)).le l3 id fun Y q=>q.elim).le l4 id fun Y q=>q.elim
  have last:codeAny M A (.compLoop (.ListComp xe [⟨xt,xi,ifs,0⟩] scope pos) 0 (.ref I) (.ref τ2.s.heap.objs.size) (jF scope env τ3.s.heap.objs.size)) (compPost M A E use Q (.ref τ2.s.heap.objs.size) τ3.s.heap.objs.size) τ4.s:=
   xJ hA hc ic ie (offs I nI (by refine J (show τ3.s.heap.get? I=some oI from Heap.get?_push_of_some _ hI) ?_;exact fun q=>nn q.symm)) (offs _ nD (J (show τ3.s.heap.get? _=some (lX #[] 0) from hDl)<|fun q=>nn q.symm)) nID ⟨frC,B3 ok em,it4,⟨#[],0,wD,.nil⟩,rfl⟩ e fun τ5 rs c vs kk mm l5 f5 w5 a5 len e5=>by
    have own2:∀b,CA scope.names (jF scope env τ3.s.heap.objs.size) I τ2.s.heap.objs.size b->τ2.g.w b=.free\/b=I:=fun b q=>by
     refine Or.elim q (fun q=>?_) fun ρ=>Or.elim ρ (fun q=>?_) fun q=>?_
     ·exact .inl (no2 (ownC b q))
     ·exact .inr q
     ·exact .inl (q▸fD)
    refine bA (bk _ (fun b q o eo=>(own2 b q).elim (fun z=>by rw [z] at eo;exact nn eo) fun z=>it2.noSeq b z o eo) τ5 ((l3.wide.trans l4.wide).trans l5)) fun Y l6 l7 eH es=>?_;have nl:∀{b},τ2.g.w b=.free->¬ND τ2 b:=fun q=>fun⟨o,eo,_⟩=>by rw [q] at eo;exact nn eo
    refine xE f5.loc fun oC wC=>?_;obtain e5:ay mu (dt Y.H (.list rs c) k) (k (.fl (bC rs)) Y.H)=some r:=J eH<|e5;refine br (Y.fixD (l7.f _ _ w5 (nl fD)) (a5.up l7.g) len e5) fun τ7 v l8 s7 rv e7=>?_;obtain tx:=(l1.wide.trans l6).trans (l8.incl fun b q=>.inr (.inr q))
    have fin':=fin τ7 τ3.s.heap.objs.size τ2.s.heap.objs.size v (tx.narrow fun b o q=>(own2 b q).elim (fun z=>nf z o) fun z=>z▸iY l1 fI o) (fun b q z=>by refine an (fr2.has q) fun o eo Y=>?_;rw [z,fC] at eo;exact nn eo)
     ⟨oC,l8.f _ _ (l7.f _ _ wC (nl fC)) nCD⟩ (by(refine J s7<|J es ?_);exact f5.val.imp fun L q=>q.1) (nf fC) rv e7
    rw [s7,es] at fin';exact fin'
  exact codeAny_compStart_list last (Io it4 last)
theorem z7(C:Cx)(ii:a9 n ns ei xi)(hc:rq scope.names xt=some (tu,ts))(ic:Ba n scope.names cd ifs)(ie:a9 n scope.names el xe)(ok:gu scope.names=true)(kind:scope.kind=.function)(cp:qD ns scope.names=true)(cs:gw xi=false):
  a9 n ns (kY mu (frees scope.names) tu ts ei cd el) (.ListComp xe [⟨xt,xi,ifs,0⟩] scope pos):=by
 intro A hA σ env m fr k r e Q E hQ;refine J (eval_ListComp _ _ _ _)<|qZ C hA ii hc ic ie ok kind cp cs fr e fun τ C D v l _ ⟨o,wC⟩ ⟨L,hL⟩ nf rv e=>⟨L,hL,fun h' sb=>?_⟩
 have l2:Le (· =C) τ (τ.put C .free τ.s.toks ⟨.inr ⟨o,wC⟩⟩ (fun b n Y=>sb.2 b n) .free):=τ.put_le (.inr rfl);exact hQ (τ.put C .free τ.s.toks ⟨.inr ⟨o,wC⟩⟩ (fun b n Y=>sb.2 b n) .free) v _ ((l.wide.trans l2).narrow fun b o q=>q▸nf o) (rv.mono l2.g) e
end
section
variable{n:Nat}{O:CK}{ex:Expr}
theorem M3(h:gn n O ns false x ex):gn n O ns md (ou (not md) x) ex:=by cases md with|false=>exact h|true=>exact bB
theorem Iw(h:b=true->gn n O ns false x ex):gn n O ns md (ou (and (not md) b) x) ex:=by cases md with|false=>exact ir h|true=>exact bB
abbrev O'(n:Nat)(O:CK)(ce:Bool->cW->Expr->X):Prop:=∀md ns ex,gn n O ns md (ce md ns ex) ex
theorem uY(ih:O' n O ce)(ifs:List Expr):Ba n ns (bS O (match ifs with
  | []=>.val (.bool true)
  | [c]=>ce true ns c
  |_=>.bad)) ifs:=by
 intro A hA σ env m fr k r e Q E hQ
 match ifs,e with
 | [],e=>exact wpAny_tests_nil (hQ σ true (.refl _) e)
 | [c],e=>exact wpAny_tests_one (ih true ns c A hA σ env m fr k r e Q E hQ)
 |_::_::_,e=>exact nn e
structure Ko(n:Nat)(O:CK)(ns:cW)(ce:Bool->cW->Expr->X)(elt:Expr)(g:Comprehension)(sc:Scope)(mu tu:Bool)(ts:List Nat):Prop where
 g0:g=⟨g.target,g.iter,g.ifs,0⟩
 cs:gw g.iter=false
 kind:sc.kind=.function
 ok:gu sc.names=true
 cp:qD ns sc.names=true
 hc:rq sc.names g.target=some (tu,ts)
theorem yq{P:X->Prop}(hb:P .bad)(h:∀tu ts,Ko n O ns ce elt g sc mu tu ts->P (.comp mu (frees sc.names) tu ts (ce false ns g.iter) (match g.ifs with
  | []=>.val (.bool true)
  | [c]=>ce true sc.names c
  |_=>.bad) (ce false sc.names elt))):P (Bx ce ns elt g sc mu):=by
 delta Bx
 cases q:and (and (decide (g.is_async=0)) (not (gw g.iter))) (and (sc.kind == .function) (and (gu sc.names) (qD ns sc.names))) with
 |false=>exact hb
 |true=>
  refine xA (aX q) fun h1 h2=>xA (aX h1) fun h0 h1=>xA (aX h2) fun h2 h3=>xA (aX h3) fun h3 h4=>iS (rq sc.names g.target) (fun e=>?_) fun c e=>?_
  ·exact hb
  ·obtain⟨tu,ts⟩:=c;refine h tu ts ⟨?_,tT h1,eq_of_beq h2,h3,h4,e⟩;obtain⟨t,i,fs,a⟩:=g;exact J (show a=0 from of_decide_eq_true h0) rfl
theorem GQ(C:Cx)(cs:cF n O)(ih:∀ex,gn n O ns false (ce false ns ex) ex)(c:qW (bK ns z)=true):gn n O ns false (HO ns z (nE ce ns exs)) (.Call (.Name z p) exs [] pos):=
 ir fun hz=>lZ (lZ (lZ bB fun f hf=>B5 C ih c hz hf) fun k hk=>CP C cs ih c hz hk) fun f hf=>Fp C cs ih c hz hf
theorem Eb(C:Cx)(cs:cF n O)(ih:∀ex,gn n O ns false (ce false ns ex) ex):gn n O ns false (EY ce ns fn exs pos) (.Call fn exs [] pos):=by
 refine Bj (P:=fun x=>gn n O ns false x (.Call fn exs [] pos)) fn bB (fun z p ρ=>?_) (fun o z apos ρ=>?_) fun a i p ρ=>?_ <;>subst ρ
 rotate_left
 ·exact ir fun h=>xA (aX h) fun h1 h2=>xA (aX h2) fun h2 h3=>xA (aX h3) fun h3 h4=>JA C cs ih (ih o) h1 h2 h3 h4
 ·exact wu cs ih (ih _) fun env=>rfl
 ·refine(?_ :gn n O ns false (@Bool.rec (fun Y=>X) (ou (qW (bK ns z)) (HO ns z (nE ce ns exs))) (.app (.var (cS z)) (nE ce ns exs)) (tY (bK ns z))) _);refine fE (tY (bK ns z)) (fun q=>?_) fun q=>?_
  ·exact wu cs ih (qj q) fun env=>rfl
  ·exact ir fun h=>GQ C cs ih h
theorem im(h:Nat.beq xi.ctorIdx 26=false)(u i:Value):subscripted xi false u i=operate [u,i] (getItem u i):=by cases xi<;>first|rfl|exact nomatch h
theorem FN(C:Cx)(ih:∀ex,gn n O ns false (ce false ns ex) ex):gn n O ns false (Mo ce ns xa xi) (.Subscript xa xi pos):=by
 have go:(∀u i,subscripted xi false u i=operate [u,i] (getItem u i))->gn n O ns false (.b .sub (ce false ns xa) (ce false ns xi)) (.Subscript xa xi pos):=fun h=>CY C (ih xa) (ih xi) h;refine vX (P:=fun x=>gn n O ns false x (.Subscript xa xi pos)) xi (fun h=>go (im h)) (fun Y Y Y ρ=>?_) (fun Y Y Y ρ=>?_) (fun Y Y Y Y ρ=>?_) (fun l u s p ρ=>?_) (fun Y Y Y Y ρ=>?_)<;>subst ρ
 ·exact go (im rfl)
 ·exact go (im rfl)
 ·exact go (im rfl)
 rotate_left
 ·exact go (im rfl)
 cases l<;>cases u<;>cases s<;>first|exact bB|exact C8 (ih _) (ih _)|exact Eh (ih _) (ih _)
set_option tactic.hygienic true in
theorem tm(C:Cx)(cs:cF n O):∀k,O' n O (cE k)
 |0,md,ns,ex=>bB
 |k+1,md,ns,ex=>by
  have ih:=tm C cs k;refine(?_ :gn n O ns md (O7 (cE k) md ns ex) ex);have i1:=ih false ns;cases ex<;>first|exact bB|skip
  case BoolOp op es pos=>
   have key:es≠ []->gn n O ns md (M1 (cE k) md ns (Lq op) es) (.BoolOp op es pos):=fun h=>by
    have t:=Fa (fun md=>ih md ns) (md:=md) (op:=op) h
    cases md with
    |false=>exact fun A hA σ env m fr k r e Q E hQ=>J (arm_eval_BoolOp _ _ _ _)<|t A hA σ env m fr k r e pos Q E hQ
    |true=>exact fun A hA σ env m fr k r e Q E hQ=>wpAny_isTrue_BoolOp (t A hA σ env m fr k r e Q E hQ)
   cases es with
   |nil=>exact bB
   |cons a r=>cases op<;>exact key (List.cons_ne_nil _ _)
  case BinOp a op b pos=>exact M3 (vG (i1 a) (i1 b))
  case UnaryOp op a pos=>
   cases op<;>first|exact bB|skip
   ·refine rt md ?_ ?_
    ·exact za (ih true ns a)
    ·exact C0 (i1 a)
   ·exact M3 (Dm (i1 a))
  case IfExp c a b pos=>
   refine rt md ?_ ?_
   ·exact yH (ih true ns c) (ih true ns a) (ih true ns b)
   ·exact Dq (ih true ns c) (i1 a) (i1 b)
  case Dict ks vs pos=>exact Iw fun h=>lZ bB fun l hl=>xA (aX h) fun h1 h2=>zZ i1 hl h1 h2
  case ListComp elt gs sc p=>
   refine M3 ?_
   cases gs with
   |nil=>exact bB
   |cons g r=>
    refine JT r ?_ fun Y Y=>?_
    ·refine yq (n:=n) (O:=O) (P:=fun x=>gn n O ns false x (.ListComp elt [g] sc p)) bB fun tu ts c=>?_;have:=z7 (pos:=p) C (i1 g.iter) c.hc (uY ih g.ifs) (ih false sc.names elt) c.ok c.kind c.cp c.cs (mu:=and (Nat.beq p.line 535) (Nat.beq p.col 11));rw [<-c.g0] at this;exact this
    ·exact bB
  case Compare a os bs pos=>
   cases os with
   |nil=>exact bB
   |cons op r=>
    cases r with
    |cons=>exact bB
    |nil=>
     cases bs with
     |nil=>exact bB
     |cons b r=>
      cases r with
      |cons=>exact bB
      |nil=>
       refine ir fun h=>rt md ?_ ?_
       ·exact mG C (i1 a) (i1 b) (tT h)
       ·exact Dh C (i1 a) (i1 b) (tT h)
  case Call fn es ks pos=>
   refine JT ks ?_ fun Y Y=>?_
   ·exact qC (fun env=>rfl) (Eb C cs i1)
   ·exact bB
  case Constant c kk pos=>exact M3 Dg
  case Attribute o z pos=>exact ir fun h=>xA (aX h) fun h1 h2=>qC (fun env=>rfl) (zc C (i1 o) h1 h2)
  case Subscript a i pos=>exact qC (fun env=>rfl) (FN C i1)
  case Name z pos=>exact qC (fun env=>rfl) (yY C)
  case List es pos=>exact Iw fun h=>sS (O:=O) h (uG i1)
  case Tuple es ct pos=>exact Iw fun h=>BZ (O:=O) h (uG i1)
end
section
variable{n:Nat}{O:CK}{ns:cW}{env:Env}{ex xe xt xi:Expr}{EP:Env->Prop}
def BN(σ:VS)(ns:cW)(env:Env)(k:KL)(r:V×Hp)(Q:Unit->Shared->Prop):Prop:=∀τ m',Le (dF ns env) σ τ->Fr τ ns env m'->k m' τ.H=some r->Q () τ.s
def jr(n:Nat)(ns:cW)(t:ST)(ex:Expr):Prop:=∀A,bZ n A->∀σ env m,Fr σ ns env m->∀v val k r,t m σ.H v k=some r->VR σ.g v val->∀(Q:Unit->Shared->Prop) E,BN σ ns env k r Q->wpAny M A (assign ex env val) Q E σ.s
structure A2(σ:VS)(ns:cW)(env:Env)(kn kb:KL)(kr:KV)(r:V×Hp)(Q:Flow->Shared->Prop):Prop where
 next:∀τ m',Le (dF ns env) σ τ->Fr τ ns env m'->kn m' τ.H=some r->Q .next τ.s
 brk:∀τ m',Le (dF ns env) σ τ->Fr τ ns env m'->kb m' τ.H=some r->Q .brk τ.s
 ret:∀τ v u,Le (dF ns env) σ τ->VR τ.g v u->kr v τ.H=some r->Q (.ret u) τ.s
def c_(n:Nat)(EP:Env->Prop)(ns:cW)(f:SS)(stmt:Stmt):Prop:=∀A,bZ n A->∀σ env m,Fr σ ns env m->EP env->∀kn kb kr r,f m σ.H kn kb kr=some r->∀Q E,A2 σ ns env kn kb kr r Q->wpAny M A (exec stmt env) Q E σ.s
def dS(n:Nat)(EP:Env->Prop)(ns:cW)(f:SS)(stmts:List Stmt):Prop:=∀A,bZ n A->∀σ env m,Fr σ ns env m->EP env->∀kn kb kr r,f m σ.H kn kb kr=some r->∀Q E,A2 σ ns env kn kb kr r Q->wpAny M A (execs stmts env) Q E σ.s
theorem dU:c_ n EP ns (aF O .bad) stmt:=fun A hA σ env m fr ep kn kb kr r e=>nn e
theorem gE(h:b=true->c_ n EP ns (aF O s) stmt):c_ n EP ns (aF O (zR b s)) stmt:=by cases b with|false=>exact dU|true=>exact h rfl
theorem Ai{f:α->S}(h:∀a,o=some a->c_ n EP ns (aF O (f a)) stmt):c_ n EP ns (aF O (Hq o .bad f)) stmt:=by cases o with|none=>exact dU|some a=>exact h a rfl
theorem BN.from(h:BN σ ns env k r Q)(l:Le (dF ns env) σ τ):BN τ ns env k r Q:=fun υ m' l'=>h υ m' (l.trans l')
theorem r7:jr n ns (hU O .bad) ex:=fun A hA σ env m fr v val k r e=>nn e
theorem nu(h:Q () s):wpAny M A (release vs keep) Q E s:=PyProof.Rows.wpAny_releaseD h
theorem jW(c:j6 o=true):o=some .local:=by exact oq (P:=fun o=>o=some .local) c (fun _=>rfl) d_ d_ d_
theorem CO(c:AN o=true):o=some .cell:=by exact oq (P:=fun o=>o=some .cell) c d_ (fun _=>rfl) d_ d_
theorem sA(e:bK ns z=some .local):jr n ns (hU O (.var false (cS z))) (.Name z pos):=by intro A hA σ env m fr v val k r ev rv Q E hQ;exact J (arm_assign_Name _ _ _ _)<|QC (wpAny_standAt (jE fr e (.inl rfl) rv fun τ l eh f'=>hQ τ _ l f' (eh▸ev)))
theorem A6(e:bK ns z=some .cell):jr n ns (hU O (.var true (cS z))) (.Name z pos):=by
 intro A hA σ env m fr v val k r ev rv Q E hQ;replace ev:OV (m 0) (k (ae m (cS z) v) σ.H) (fun _=>none)=some r:=ev;refine iS (m 0) (fun h0=>?_) fun _ h0=>?_
 ·obtain ev:=h0▸ev;exact J (arm_assign_Name _ _ _ _)<|QC (wpAny_standAt (jE fr e (.inr ⟨rfl,h0⟩) rv fun τ l eh f'=>hQ τ _ l f' (eh▸ev)))
 ·obtain ev:=h0▸ev;exact nn ev
theorem xC(C:Cx)(io:a9 n ns (bS O xo) o)(hz:i5 z=true):jr n ns (hU O (.attr xo (cS z))) (.Attribute o z pos):=by intro A hA σ env m fr v val k r ev rv Q E hQ;refine J (arm_assign_Attribute _ _ _ _ _)<|QC (QE (io A hA σ env m fr _ r ev _ E fun τ a u l ru e=>?_));refine an (aZ e) fun H' e1 e=>QC (wpAny_standAt (QC (QE ?_)));have h:=w0 (A:=A) (E:=E) C.G C.C e1 ru (l.vr rv) fun υ l2 eh=>hQ υ m (l.trans l2).wide (fr.le (l.trans l2)) (eh▸e);obtain h:=(dT hz)▸h;exact wpAny_mono h (fun _ s q=>nu q) fun _ _ q=>q
theorem zB{xo xi:X}(io:a9 n ns (bS O xo) o)(ii:a9 n ns (bS O xi) i):jr n ns (hU O (.sub xo xi)) (.Subscript o i pos):=by intro A hA σ env m fr v val k r ev rv Q E hQ;refine J (arm_assign_Subscript _ _ _ _ _)<|QC (QE (io A hA σ env m fr _ r ev _ E fun τ a u l ru e=>?_));refine QC (QE (ii A hA τ env m (fr.le l) _ r e _ E fun υ b y l2 ry e=>?_));refine an (aZ e) fun H' e1 e=>?_;have l12:=l.trans l2;refine QC (wpAny_standAt (QC (QE (Mg e1 (l2.vr ru) ry (l12.vr rv) fun Y l3 eh=>nu ?_))));exact hQ Y m (l12.trans l3).wide (fr.le (l12.trans l3)) (eh▸e)
theorem ye(h:b=true->jr n ns (hU O t) ex):jr n ns (hU O (MN b t)) ex:=by cases b with|false=>exact r7|true=>exact h rfl
theorem tH(C:Cx)(ih:∀ex,gn n O ns false (ce false ns ex) ex):jr n ns (hU O (Df ce ns xt)) xt:=by
 refine Bj (P:=fun t=>jr n ns (hU O t) xt) xt r7 (fun z p ρ=>?_) (fun o x p ρ=>?_) fun a i p ρ=>?_ <;>subst ρ
 rotate_left
 ·exact ye fun h=>xC C (ih _) h
 ·exact zB (ih _) (ih _)
 ·refine(?_ :jr n ns (hU O (@Bool.rec (fun _=>T) (MN (AN (bK ns z)) (.var true (cS z))) (.var false (cS z)) (j6 (bK ns z)))) _);refine fE (j6 (bK ns z)) (fun q=>?_) fun q=>?_
  ·exact sA (jW q)
  ·exact ye fun h=>A6 (CO h)
theorem As(C:Cx)(ih:∀ex,gn n O ns false (ce false ns ex) ex)(hA:bZ n A):∀{exs:List Expr} {xs:List V} {vals:List Value} {σ:VS} {m:Loc} {k:KL} {Q:Unit->Shared->Prop},exs.all aJ=true->Fr σ ns env m->B4 O (exs.map (Df ce ns)) xs m σ.H k=some r->c6 σ.g xs vals->BN σ ns env k r Q->
  wpAny M A (assignInOrder ((assignEach exs env).map (·.2)) vals) Q E σ.s
 | [],xs,vals,σ,m,k,Q,hs,fr,e,rv,hQ=>by
  cases rv with
  |nil=>exact QD (hQ σ m (.refl _) fr e)
  |cons=>exact nn e
 |ex::exs,xs,vals,σ,m,k,Q,hs,fr,e,rv,hQ=>by
  refine xA (aX (show(and (aJ ex) (exs.all aJ))=true from hs)) fun h1 h2=>?_
  cases rv with
  |nil=>exact nn e
  | @cons v val xs vals r1 r2=>refine J (cY h1)<|(?_ :wpAny _ _ (holding vals (assign ex env val) >>= fun _=>assignInOrder ((assignEach exs env).map (·.2)) vals) _ _ _);refine QC (QE (tH C ih A hA σ env m fr v val _ r e r1 _ E fun τ m' l f' e=>?_));exact As C ih hA h2 f' e (c6.up l.g r2) (hQ.from l)
theorem EO(C:Cx)(ih:∀ex,gn n O ns false (ce false ns ex) ex)(hs:exs.all aJ=true):jr n ns (cr O (exs.map (Df ce ns))) (.Tuple exs ct pos):=by intro A hA σ env m fr v val k r e rv Q E hQ;refine an (aZ e) fun xs e1 e=>xA (eA e) fun hl e=>?_;have hl:=QT hl;rw [aw,aw,List.length_map] at hl;exact tj hA.h hs e1 hl rv fun τ vals l eh rs=>As C ih hA hs (fr.le l) (eh▸e) rs (hQ.from l.wide)
theorem wS:dS n EP ns (aF O .skip) []:=fun A hA σ env m fr ep kn kb kr r e Q E hQ=>wpAny_execs_nil (hQ.next σ m (.refl _) fr e)
theorem A2.from(h:A2 σ ns env kn kb kr r Q)(l:Le (dF ns env) σ τ):A2 τ ns env kn kb kr r Q:=⟨fun υ m' l'=>h.next υ m' (l.trans l'),fun υ m' l'=>h.brk υ m' (l.trans l'),fun υ v u l'=>h.ret υ v u (l.trans l')⟩
theorem uy{a b:S}(ia:c_ n EP ns (aF O a) stmt)(ib:dS n EP ns (aF O b) stmts):dS n EP ns (aF O (.seq a b)) (stmt::stmts):=by
 intro A hA σ env m fr ep kn kb kr r e Q E hQ;refine QC (ia A hA σ env m fr ep _ _ _ r e _ E ⟨fun τ m' l f' e=>?_,fun τ m' l f' e=>?_,fun τ v u l rv e=>?_⟩)
 ·exact ib A hA τ env m' f' ep kn kb kr r e Q E (hQ.from l)
 ·exact QD (hQ.brk τ m' l f' e)
 ·exact QD (hQ.ret τ v u l rv e)
theorem pc(c:pB ex=false):swapsWith ex t l env=pure false:=by cases ex<;>first|exact Bool.noConfusion c|rfl
theorem xI(ih:a9 n ns (bS O e) ex)(c:pB ex=false):c_ n EP ns (aF O (.ex e)) (.Expr ex pos):=by intro A hA σ env m fr ep kn kb kr r e Q E hQ;exact wpAny_Expr_any (ih A hA σ env m fr _ r e _ E fun τ v u l ru e=>hQ.next τ m l.wide (fr.le l) e) (by delta interactive;refine J fr.fnk ?_;rfl) (pc c)
theorem zS(ih:a9 n ns (bS O e) ex):c_ n EP ns (aF O (.ret e)) (.Return (some ex) pos):=by intro A hA σ env m fr ep kn kb kr r e Q E hQ;exact wpAny_Return_some (ih A hA σ env m fr _ r e _ E fun τ v u l ru e=>hQ.ret τ v u l.wide ru e)
theorem wF:c_ n EP ns (aF O (.ret (.val .none))) (.Return none pos):=fun A hA σ env m fr ep kn kb kr r e Q E hQ=>wpAny_Return_none (hQ.ret σ _ _ (.refl _) .none e)
theorem yj:c_ n EP ns (aF O .brk) (.Break pos):=fun A hA σ env m fr ep kn kb kr r e Q E hQ=>wpAny_Break (hQ.brk σ m (.refl _) fr e)
theorem CL{a b:S}{xc:Expr}{xa xb:List Stmt}(ic:jD n ns (bS O c) xc)(ia:dS n EP ns (aF O a) xa)(ib:dS n EP ns (aF O b) xb):c_ n EP ns (aF O (.ite c a b)) (.If xc xa xb pos):=by
 intro A hA σ env m fr ep kn kb kr r e Q E hQ;refine wpAny_If (ic A hA σ env m fr _ r e _ E fun τ t l e=>?_)
 cases t with
 |true=>exact ia A hA τ env m (fr.le l) ep kn kb kr r e Q E (hQ.from l.wide)
 |false=>exact ib A hA τ env m (fr.le l) ep kn kb kr r e Q E (hQ.from l.wide)
theorem Le.drop(l:Le (fun b=>P b\/b=c) σ τ)(h:∀o,σ.g.w c≠ .f o):Le P σ τ:=⟨l.g,fun b o e n=>l.f b o e fun q=>q.elim n fun q=>h o (q▸e),l.s⟩
theorem si(C:Cx)(it:jr n ns ft xt)(ie:a9 n ns (bS O e) xi)(ib:dS n EP ns (aF O b) xb)(c:gw xi=false):c_ n EP ns (qk ft (bS O e) (aF O b)) (.For xt xi xb [] pos):=by
 intro A hA σ env m fr ep kn kb kr r e Q E hQ;refine wpAny_For (ie A hA σ env m fr _ r e _ E fun τ a u l ra e=>?_) (fun x=>jG c x);refine zQ C.G e ra fun τ2 I cnt t l2 fI bk it2 e=>?_;have fr1:=fr.le l;have fr2:=fr1.le l2;have nI:∀b,iV ns env b->b≠I:=fun b q z=>by refine an (fr1.has q) fun o eo _=>?_;(obtain eo:=z▸eo;obtain eo:=fI▸eo);exact nn eo
 obtain nS:sn τ2 (fun b=>dF ns env b\/b=I):=fun b q=>q.elim (fr2.noSeq b) (it2.noSeq b)
 have out:∀υ,Le (fun b=>dF ns env b\/b=I) τ2 υ->∃Y:VS,Le (dF ns env) σ Y/\υ.g.le Y.g/\Y.H=be τ.H a υ.H/\Y.s=υ.s/\∀m,Fr υ ns env m->Fr Y ns env m:=fun υ l3=>by
  refine bA (bk _ nS υ l3) fun Y l6 l7 eH es=>⟨Y,(l.wide.trans l6).drop (iY l fI),l7.g,eH,es,fun m f=>f.leO l7 fun b hb ⟨o,eo,vs,k,q⟩=>by
   refine an (fr2.has hb) fun o' eo' h=>?_;rw [eo] at eo';obtain rfl:=sj eo';exact h vs k q⟩
 have next:∀υ m,Le (fun b=>dF ns env b\/b=I) τ2 υ->Fr υ ns env m->kn m (be τ.H a υ.H)=some r->Q .next υ.s:=fun υ m l3 f e=>by exact cR (out υ l3) fun Y h1 _ h2 h3 h4=>aQ h3<|hQ.next Y m h1 (h4 m f) (h2▸e)
 let Inv:Nat->Shared->Prop:=fun k s1=>∃υ m t,s1=υ.s/\Le (fun b=>dF ns env b\/b=I) τ2 υ/\Fr υ ns env m/\uN υ dH I t/\dw ft (aF O b) k t m υ.H (fun m h'=>kn m (be τ.H a h')) (fun v h'=>kr v (be τ.H a h'))=some r;refine codeAny_forLoop_any Inv (fun k s1 hi=>?_) cnt ⟨τ2,m,t,rfl,.refl _,fr2,it2,e⟩;refine eK hi fun υ m t ρ3 l3 f3 ψ0=>xA ψ0 fun it3 e=>J ρ3 ?_;have atI:∀{Y},Le (· =I) υ Y->Le (fun b=>dF ns env b\/b=I) τ2 Y/\Fr Y ns env m:=fun l4=>⟨l3.trans (l4.incl fun b q=>.inr q),f3.leO l4 nI⟩
 have ends:kn m (be τ.H a υ.H)=some r->∀Y,Le (· =I) υ Y->Y.H=υ.H->Q .next Y.s:=fun e Y l4 eh=>next Y m (atI l4).1 (atI l4).2 (eh▸e)
 cases k with
 |zero=>replace e:eQ t υ.H (kn m (be τ.H a υ.H)) (fun _ _=>none)=some r:=e;exact qF hA.h it3 e (fun Y v t' val _ _ _ _ e=>nn e) fun Y l4 eh e=>wpAny_execs_nil (ends e Y l4 eh)
 |succ k=>
  replace e:eQ t υ.H (kn m (be τ.H a υ.H)) (fun v t=>ft m υ.H v fun m h=>aF O b m h (fun m h=>dw ft (aF O b) k t m h (fun m h'=>kn m (be τ.H a h')) (fun v h'=>kr v (be τ.H a h'))) (fun m h'=>kn m (be τ.H a h')) (fun v h'=>kr v (be τ.H a h')))=some r:=e;refine qF hA.h it3 e (fun Y v t' val l4 eh it4 rv e=>?_) fun Y l4 eh e=>wpAny_execs_nil (ends e Y l4 eh);refine xA (atI l4) fun l04 f4=>wh it4 ?_;obtain e:=eh▸e;refine it A hA Y env m f4 v val _ r e rv _ _ fun φ m' l5 f5 e=>?_;have nO:¬dF ns env I:=fun q=>nI I q.has rfl;have it5:=it4.le l5 nO fun b q=>.inr (f4.noSeq b q);have l05:=l04.trans (l5.incl fun b q=>.inl q);refine ib A hA φ env m' f5 ep _ _ _ r e _ _ ⟨fun ψ m2 l6 f6 e=>?_,fun ψ m2 l6 f6 e=>?_,fun ψ v u l6 rv e=>?_⟩
  ·exact⟨k,Nat.lt_succ_self _,ψ,m2,t',rfl,l05.trans (l6.incl fun b q=>.inl q),f6,it5.le l6 nO fun b q=>.inr (f5.noSeq b q),e⟩
  ·exact next ψ m2 (l05.trans (l6.incl fun b q=>.inl q)) f6 e
  ·refine cR (out ψ (l05.trans (l6.incl fun b q=>.inl q))) fun χ h1 h0 h2 h3 _=>(?_ :Q (.ret u) ψ.s)
   exact aQ h3<|hQ.ret χ v u h1 (rv.mono h0) (h2▸e)
end
section
variable{O:CK}{ex xe xt xi:Expr}
theorem fK(hn:env.scope.names=ns)(hk:env.scope.kind=.function):swapsWithSole [t] ex l env=swapsWithSole [t] ex l (jo ns):=by
 cases env with|mk scope=>
 cases scope with|mk kind names=>
 obtain rfl:names=ns:=hn;obtain rfl:=hk;rfl
theorem gt(hn:env.scope.names=ns)(hk:env.scope.kind=.function):swappedStores [t] ex env=swappedStores [t] ex (jo ns):=by
 cases env with|mk scope=>
 cases scope with|mk kind names=>
 obtain rfl:names=ns:=hn;obtain rfl:=hk;rfl
theorem yC(hE:∀env,EP env->env.scope.names=ns)(it:jr n ns (hU O t) xt)(ih:a9 n ns (bS O e) ex)(c:swapsWithSole [xt] ex pos.line (jo ns)=pure false)(ct:aJ xt=true)(cw:swappedStores [xt] ex (jo ns)=pure none):c_ n EP ns (aF O (.asg t e)) (.Assign [xt] ex pos):=by intro A hA σ env m fr ep kn kb kr r ev Q E hQ;refine wpAny_Assign_stores (ih A hA σ env m fr _ r ev _ E fun τ v u l ru e=>?_) ((fK (hE _ ep) fr.fnk).trans c) ((gt (hE _ ep) fr.fnk).trans cw);refine J (show(assignEach [xt] env).map (·.2)= [assign xt env] by refine J (cY ct) ?_;rfl) ?_;exact it A hA τ env m (fr.le l) v u kn r e ru _ E fun υ m' l2 f' e=>hQ.next υ m' (l.wide.trans l2) f' e
theorem A8(C:Cx)(ih:∀ex,gn n O ns false (ce false ns ex) ex)(hE:∀env,EP env->env.scope.names=ns)(hs:exs.all aJ=true)(ie:a9 n ns (bS O e) ex)(c:swapsWithSole [.Tuple exs ct p] ex pos.line (jo ns)=pure false)(cw:swappedStores [.Tuple exs ct p] ex (jo ns)=pure none):
  c_ n EP ns (aF O (.tup (exs.map (Df ce ns)) e)) (.Assign [.Tuple exs ct p] ex pos):=by
 intro A hA σ env m fr ep kn kb kr r ev Q E hQ;refine wpAny_Assign_stores (ie A hA σ env m fr _ r ev _ E fun τ v u l ru e=>?_) ((fK (hE _ ep) fr.fnk).trans c) ((gt (hE _ ep) fr.fnk).trans cw);refine(?_ :wpAny _ _ (assign (.Tuple exs ct p) env u) _ _ _);exact EO C ih hs A hA τ env m (fr.le l) v u kn r e ru _ E fun υ m' l2 f' e=>hQ.next υ m' (l.wide.trans l2) f' e
theorem oK(h:i≠j):ae (ae m i x) j y=ae (ae m j y) i x:=by
 funext k;by_cases a:k=i
 ·refine J a ?_;(exact J (bU h _ _)<|J (du _ _ _)<|J (du _ _ _) rfl)
 ·by_cases b:k=j
  ·refine aQ b ?_;(exact J (du _ _ _)<|J (bU a _ _)<|J (du _ _ _) rfl)
  ·exact J (bU b _ _)<|J (bU a _ _)<|J (bU a _ _)<|J (bU b _ _) rfl
def eU(m:Loc):List Nat->List V->Loc
 |c::cs,v::vs=>eU (ae m c v) cs vs
 |_,_=>m
theorem zL:∀{cs:List Nat} {vs:List V} {m m':Loc},locs cs vs m=some m'->m'=eU m cs vs/\vs.length=cs.length
 | [],[],m,m',e=>bt e<|⟨rfl,rfl⟩
 | [],_::_,m,m',e=>nn e
 |_::_,[],m,m',e=>nn e
 |c::cs,v::vs,m,m',e=>by exact xA (zL (show locs cs vs (ae m c v)=some m' from e)) fun a b=>⟨a,congrArg Nat.succ b⟩
theorem oy:∀{a:List Nat} {xs:List V} {m:Loc} {c:Nat},xs.length=a.length->eU m (a++ [c]) (xs++ [v])=ae (eU m a xs) c v
 | [],[],m,c,_=>rfl
 | [],_::_,m,c,h=>nomatch h
 |_::_,[],m,c,h=>nomatch h
 |i::a,w::xs,m,c,h=>oy (m:=ae m i w) (Nat.succ.inj h)
theorem oz:∀{cs:List Nat} {xs:List V} {m:Loc} {i:Nat},i ∉ cs->eU (ae m i v) cs xs=ae (eU m cs xs) i v
 | [],xs,m,i,_=>by cases xs<;>rfl
 |j::cs,[],m,i,_=>rfl
 |j::cs,y::xs,m,i,h=>by obtain hj:i≠j:=fun q=>h (q▸ .head _);refine(?_ :eU (ae (ae m i v) j y) cs xs=ae (eU (ae m j y) cs xs) i v);exact J (oK hj)<|J (oz fun q=>h (.tail _ q)) rfl
theorem oo:∀{cs:List Nat} {xs:List V} {m:Loc},cs.Nodup->xs.length=cs.length->eU m cs.reverse xs.reverse=eU m cs xs
 | [],[],m,_,_=>rfl
 | [],_::_,m,_,h=>nomatch h
 |_::_,[],m,_,h=>nomatch h
 |i::cs,w::xs,m,nd,h=>by rw [List.nodup_cons] at nd;have h':=Nat.succ.inj h;(refine J List.reverse_cons<|J List.reverse_cons<|J (oy (by(refine J QL<|J QL ?_);exact h')) ?_;refine J (oo nd.2 h') ?_);exact(oz nd.1).symm
theorem sW:∀{zs:List Str} {xs:List V} {vals:List Value} {σ:VS} {m:Loc} {Q:Unit->Shared->Prop},(∀z∈zs,bK ns z=some .local)->Fr σ ns env m->c6 σ.g xs vals->xs.length=zs.length->Dx σ ns env (eU m (zs.map cS) xs) Q->wpAny M A (assignInOrder (zs.map fun n=>bindName env n) vals) Q E σ.s
 | [],xs,vals,σ,m,Q,hz,fr,rv,hl,hQ=>by
  cases rv with
  |nil=>exact QD (hQ σ (.refl _) rfl fr)
  |cons=>exact nomatch hl
 |z::zs,xs,vals,σ,m,Q,hz,fr,rv,hl,hQ=>by
  cases rv with
  |nil=>exact nomatch hl
  | @cons v val xs vals r1 r2=>refine(?_ :wpAny _ _ (holding vals (bindName env z val) >>= fun Y=>assignInOrder (zs.map fun n=>bindName env n) vals) _ _ _);refine QC (QE (jE fr (hz z (.head _)) (.inl rfl) r1 fun τ l eh f'=>?_));exact sW (fun y hy=>hz y (.tail _ hy)) f' (c6.up l.g r2) (Nat.succ.inj hl) fun υ l2 eh2 f2=>hQ υ (l.trans l2) (eh2.trans eh) f2
theorem Cs(hE:∀env,EP env->env.scope.names=ns)(ie:a9 n ns (bS O e) ex)(nd:xz (zs.map cS)=true)(hz:(zs.all fun x=>j6 (bK ns x))=true)(c:swapsWithSole [.Tuple exs ct p] ex pos.line (jo ns)=pure false)(cw:swappedStores [.Tuple exs ct p] ex (jo ns)=pure (some zs)):
  c_ n EP ns (aF O (.sw (zs.map cS) e)) (.Assign [.Tuple exs ct p] ex pos):=by
 intro A hA σ env m fr ep kn kb kr r ev Q E hQ;refine Assign_Tuple_swapped (ie A hA σ env m fr _ r ev _ E fun τ v u l ru e=>?_) ((fK (hE _ ep) fr.fnk).trans c) ((gt (hE _ ep) fr.fnk).trans cw);refine an (aZ e) fun xs e1 e=>an (aZ e) fun m' e2 e=>xA (zL e2) fun ρ hl=>?_;subst ρ;rw [List.length_map] at hl;refine aQ hl<|vj hA.h e1 ru fun υ vals l2 eh rs=>?_;have l12:=l.trans l2;refine sW (fun z h=>jW (List.all_eq_true.mp hz z (List.mem_reverse.mp h))) (fr.le l12) rs.rev (by(refine J QL<|J QL ?_);exact hl) ?_;refine J List.map_reverse<|J (oo (qL nd) (by exact J (QJ _)<|hl)) ?_;exact fun Y l3 eh3 f'=>hQ.next Y _ (l12.wide.trans l3) f' (eh3▸eh▸e)
theorem y9(C:Cx)(hE:∀env,EP env->env.scope.names=ns)(hy:bK ns z=some .local)(ee:bS O e=kY mu (frees scope.names) tu ts ei cd el)
  (ii:a9 n ns ei xi)(hc:rq scope.names xt=some (tu,ts))(ic:Ba n scope.names cd ifs)(ie:a9 n scope.names el xe)(ok:gu scope.names=true)(kind:scope.kind=.function)(cp:qD ns scope.names=true)(cs:gw xi=false)
  (hs:swapsWith (.ListComp xe [⟨xt,xi,ifs,0⟩] scope pos) (some (.Name z py)) spos.line (jo ns)=pure true):c_ n EP ns (aF O (.asg (.var false (cS z)) e)) (.Assign [.Name z py] (.ListComp xe [⟨xt,xi,ifs,0⟩] scope pos) spos):=by
 intro A hA σ env m fr ep kn kb kr r ev Q E hQ;replace ev:bS O e m σ.H (fun v h=>kn (ae m (cS z) v) h)=some r:=ev;obtain ev:=ee▸ev;obtain hs':swapsWith (.ListComp xe [⟨xt,xi,ifs,0⟩] scope pos) (some (.Name z py)) spos.line env=pure true:=(fK (t:=.Name z py) (ex:=.ListComp xe [⟨xt,xi,ifs,0⟩] scope pos) (l:=spos.line) (hE _ ep) fr.fnk).trans hs;refine J (exec_Assign_Name_used _ _ _ _ hs')<|QC (wpAny_standAt (QC ?_));refine(?_ :wpAny _ A (do let _ <-comprehension (.ListComp xe [⟨xt,xi,ifs,0⟩] scope pos) scope env _ (newList []) false (eval xi env) (some (assign (.Name z py) env))) _ _ _);refine QC (wpAny_mono (qZ C hA ii hc ic ie ok kind cp cs fr ev fun τ c D v l nC ⟨o,wC⟩ ⟨L,hL⟩ nf rv e=>?_) (fun Y s' hq=>QD (QD hq)) fun Y Y e=>e);refine(?_ :wpAny _ A (assign (.Name z py) env (.ref D)) _ _ _);refine J (arm_assign_Name _ _ _ _)<|QC (wpAny_standAt (jE (fr.le l) hy (.inl rfl) rv fun υ l2 eh f'=>?_));have nO:¬dF ns env c:=fun q=>nC c q.has rfl;have wC2:=l2.f _ _ wC nO;refine⟨L,jS hL (l2.keep nO (by refine J wC ?_;rfl)).2,fun h' sb=>?_⟩;have l3:Le (· =c) υ (υ.put c .free υ.s.toks ⟨.inr ⟨o,wC2⟩⟩ (fun b n Y=>sb.2 b n) .free):=υ.put_le (.inr rfl);refine hQ.next (υ.put c .free υ.s.toks ⟨.inr ⟨o,wC2⟩⟩ (fun b n Y=>sb.2 b n) .free) _ (Le.drop (((l.wide.trans l2).incl fun b q=>.inl q).trans (l3.incl fun b q=>.inr q)) nf) (f'.leO l3 nC)<|(?_ :kn (ae m (cS z) v) υ.H=some r);exact J eh<|e
end
section
variable{O:CK}{ex xe xt xi:Expr}
def qy(n:Nat)(O:CK)(EP:Env->Prop)(ns:cW):Prop:=∀t a b sc q p,c_ n EP ns (aF O (Js ns t a b sc q)) (.Assign [t] (.Lambda a b sc q) p)
theorem Ou{e:Expr}(h:Nat.beq e.ctorIdx 8=true):∃a g s p,e=.ListComp a g s p:=by cases e<;>first|exact⟨_,_,_,_,rfl⟩|exact d_ h
theorem IW(C:Cx)(cs:cF n O)(hE:∀env,EP env->env.scope.names=ns)(L:la=true->qy n O EP ns)(ct:aJ xt=true):c_ n EP ns (aF O (LP la (cE 25) ns xt ex pos)) (.Assign [xt] ex pos):=by
 have ih:=tm C cs 25;have ie:=ih false ns ex
 have use:swapsWithSole [xt] ex pos.line (jo ns)=pure true->c_ n EP ns (aF O (IK (cE 25) ns xt ex)) (.Assign [xt] ex pos):=fun hb=>by
  refine gE fun h0=>?_;obtain⟨elt,gs,sc,q,rfl⟩:=Ou h0;refine uO (P:=fun s=>c_ n EP ns (aF O s) (.Assign [xt] (.ListComp elt gs sc q) pos)) xt dU fun z py ρ=>?_;subst ρ;refine gE fun h=>?_;have i24:=tm C cs 24
  cases gs with
  |nil=>exact fun A hA σ env m fr ep kn kb kr r e=>nn e
  |cons g r=>
   cases r with
   |cons=>exact fun A hA σ env m fr ep kn kb kr r e=>nn e
   |nil=>refine yq (n:=n) (O:=O) (ce:=cE 24) (P:=fun x=>c_ n EP ns (aF O (.asg (.var false (cS z)) x)) (.Assign [.Name z py] (.ListComp elt [g] sc q) pos)) (fun A hA σ env m fr ep kn kb kr r e=>nn e) fun tu ts c=>?_;have hb':=hb;rw [c.g0] at hb' ⊢;exact y9 C hE (jW h) rfl (i24 false ns g.iter) c.hc (uY i24 g.ifs) (i24 false sc.names elt) c.ok c.kind c.cp c.cs hb'
 have main:c_ n EP ns (aF O (Hq (pureOf (swapsWithSole [xt] ex pos.line (jo ns))) .bad fun b=>@Bool.rec (fun Y=>S) (Hq (pureOf (swappedStores [xt] ex (jo ns))) .bad fun o=>Hq o (Pm (cE 25) ns xt (cE 25 false ns ex)) fun xs=>Pn ns xt xs (cE 25 false ns ex)) (IK (cE 25) ns xt ex) b)) (.Assign [xt] ex pos):=by
  refine Ai fun b hb=>?_;have hb:=of_pureOf hb
  cases b with
  |true=>exact use hb
  |false=>
   refine Ai fun o ho=>?_;have ho:=of_pureOf ho
   cases o with
   |none=>have gen:=yC hE (tH C (ih false ns)) ie hb ct ho;refine p_ (P:=fun s=>c_ n EP ns (aF O s) (.Assign [xt] ex pos)) xt gen fun ts k p ρ=>?_;subst ρ;exact gE fun h=>A8 C (ih false ns) hE h ie hb ho
   |some zs=>refine p_ (P:=fun s=>c_ n EP ns (aF O s) (.Assign [xt] ex pos)) xt dU fun ts k p ρ=>?_;subst ρ;exact gE fun h=>xA (aX h) fun h1 h2=>Cs hE ie h1 h2 hb ho
 exact AB (P:=fun s=>c_ n EP ns (aF O s) (.Assign [xt] ex pos)) ex main fun a b s p ρ=>J ρ<|gE fun h=>L h _ _ _ _ _ _
set_option tactic.hygienic true in
theorem Lg(C:Cx)(cs:cF n O)(hE:∀env,EP env->env.scope.names=ns)(L:la=true->qy n O EP ns)(is:∀l,dS n EP ns (aF O (ss ns l)) l):c_ n EP ns (aF O (Ox la (cE 25) ss ns stmt)) stmt:=by
 have ih:=tm C cs 25;cases stmt<;>first|exact dU|skip
 case Return o pos=>
  refine con o ?_ fun e=>?_
  ·exact wF
  ·exact zS (ih false ns e)
 case Assign ts e pos=>
  cases ts with
  |nil=>exact dU
  |cons t r=>
   refine JT r ?_ fun Y Y=>?_
   ·exact gE fun h=>IW C cs hE L h
   ·exact dU
 case For t i b els pos=>
  refine JT els ?_ fun Y Y=>?_
  ·refine gE fun h=>xA (aX h) fun h1 h2=>?_;have gen:c_ n EP ns (aF O (.for1 (Df (cE 25) ns t) (cE 25 false ns i) (ss ns b))) (.For t i b [] pos):=si C (tH C (ih false ns)) (ih false ns i) (is b) (tT h1);exact p_ (P:=fun s=>c_ n EP ns (aF O s) (.For t i b [] pos)) t gen fun ts k p ρ=>J ρ<|gE fun h=>si C (EO C (ih false ns) h) (ih false ns i) (is b) (tT h1)
  ·exact dU
 case If c a b pos=>exact CL (ih true ns c) (is a) (is b)
 case Expr e pos=>exact gE fun h=>xI (ih false ns e) (tT h)
 case Break pos=>exact yj
theorem Fc(h:∀stmt,c_ n EP ns (aF O (Ox la (cE 25) ss ns stmt)) stmt):∀stmts,dS n EP ns (aF O (Pe la (cE 25) ss ns stmts)) stmts
 | []=>wS
 |s::r=>uy (h s) (Fc h r)
theorem uR(C:Cx)(cs:cF n O)(hE:∀env,EP env->env.scope.names=ns)(L:la=true->qy n O EP ns):∀k stmts,dS n EP ns (aF O (NE la k ns stmts)) stmts
 |0,stmts=>fun A hA σ env m fr ep kn kb kr r e=>nn e
 |k+1,stmts=>Fc (fun stmt=>Lg C cs hE L (uR C cs hE L k)) stmts
end
section
variable{σ τ υ:VS}
noncomputable def l_:List (Nat×Option V)->List V->Option (List V)
 | [],[]=>some []
 | [],_::_=>none
 |(c,o)::ps,[]=>o.bind fun d=>(l_ ps []).map (d:: ·)
 |(c,o)::ps,x::xs=>(l_ ps xs).map (x:: ·)
theorem qM:∀{ps:List (Nat×Option V)} {m:Loc} {xs:List V} {k:Loc->KX},nN ps m xs k=some r->∃ys,l_ ps xs=some ys/\k (eU m (ps.map (·.1)) ys)=some r
 | [],m,[],k,e=>⟨[],rfl,e⟩
 | [],m,_::_,k,e=>nn e
 |(c,none)::ps,m,[],k,e=>nn e
 |(c,some d)::ps,m,[],k,e=>by refine an (qM (show nN ps (ae m c d) [] k=some r from e)) fun ys h1 h2=>⟨d::ys,by refine(?_ :(l_ ps []).map (d:: ·)=_);refine J h1 ?_;rfl,h2⟩
 |(c,o)::ps,m,x::xs,k,e=>by refine an (qM (show nN ps (ae m c x) xs k=some r from e)) fun ys h1 h2=>⟨x::ys,by refine(?_ :(l_ ps xs).map (x:: ·)=_);refine J h1 ?_;rfl,h2⟩
theorem j8:∀(zs:List Str) (n:Nat) (ds:List V),(lY n zs ds).map (·.1)=zs.map cS
 | [],n,ds=>rfl
 |z::zs,0,[]=>congrArg (cS z:: ·) (j8 zs 0 [])
 |z::zs,0,d::ds=>congrArg (cS z:: ·) (j8 zs 0 ds)
 |z::zs,n+1,ds=>congrArg (cS z:: ·) (j8 zs n ds)
theorem vn(e:o.map f=some b):∃a,o=some a/\f a=b:=Option.map_eq_some_iff.mp e
theorem p9:∀{zs:List Str} {n:Nat} {ds xs ys:List V},l_ (lY n zs ds) xs=some ys->n+ds.length=zs.length->xs.length<=zs.length/\n<=xs.length/\ys=xs++ds.drop (xs.length - n)
 | [],n,ds,[],ys,e,h=>by
  refine bt e ?_;have:n=0/\ds.length=0:=by rw [List.length_nil] at h;exact⟨QF (ai 0xc61400010800c5040002 rfl h) (lin 0x5003000001 rfl _),Nat.le_antisymm (ai 0xc51800010800c5040002 rfl h) (lin 0x5003000001 rfl _)⟩
  refine xA this fun ρ h2=>J ρ ?_;obtain rfl:=List.length_eq_zero_iff.mp h2;exact⟨QR _,Nat.le_refl _,rfl⟩
 | [],n,ds,_::_,ys,e,h=>nn e
 |z::zs,0,[],[],ys,e,h=>nn e
 |z::zs,0,[],x::xs,ys,e,h=>by rw [List.length_cons,List.length_nil] at h;lia
 |z::zs,0,d::ds,[],ys,e,h=>by exact an (vn (show(l_ (lY 0 zs ds) []).map (d:: ·)=some ys from e)) fun ys e1 ρ=>aQ ρ<|fp (p9 e1 (by rw [List.length_cons,List.length_cons] at h;exact QF (ai 0x10c60010c50000c00010861400c0040002 rfl h) (ai 0x10c50010c60000c0001146003005040002 rfl h))) fun Y Y ρ=>J ρ<|⟨Nat.zero_le _,Nat.le_refl _,rfl⟩
 |z::zs,0,d::ds,x::xs,ys,e,h=>by refine an (vn (show(l_ (lY 0 zs ds) xs).map (x:: ·)=some ys from e)) fun ys e1 ρ=>aQ ρ<|fp (p9 e1 (by rw [List.length_cons,List.length_cons] at h;exact QF (ai 0x10c60010c50000c00010861400c0040002 rfl h) (ai 0x10c50010c60000c0001146003005040002 rfl h))) fun h1 Y ρ=>J ρ<|⟨Q3 h1,Nat.zero_le _,by(refine J (Nat.sub_zero _)<|J (Nat.sub_zero _) ?_);rfl⟩
 |z::zs,n+1,ds,[],ys,e,h=>nn e
 |z::zs,n+1,ds,x::xs,ys,e,h=>by refine an (vn (show(l_ (lY n zs ds) xs).map (x:: ·)=some ys from e)) fun ys e1 ρ=>aQ ρ<|fp (p9 e1 (by rw [List.length_cons] at h;exact QF (ai 0x10c70060431400000421c6140040003 rfl h) (ai 0x10c50070431800000451c6005040003 rfl h))) fun h1 h2 ρ=>J ρ<|⟨Q3 h1,Nat.succ_le_succ h2,by(refine J QK<|J (Nat.succ_sub_succ _ _) ?_);rfl⟩
def zn(g:Gh)(ns:cW)(m:Loc)(L C:Str->Option Value):Prop:=∀z k v,bK ns z=some k->m (cS z)=some v->(k=.local->∃val,L z=some val/\VR g v val)/\(k=.cell->∃val,C z=some val/\VR g v val)
theorem mO(ok:gu ns=true):∀{zs:List Str} {xs:List V} {vals:List Value} {m:Loc} {L C:Str->Option Value},(∀z∈zs,bK ns z=some .local\/bK ns z=some .cell)->c6 g xs vals->xs.length=zs.length->zn g ns m L C->
  zn g ns (eU m (zs.map cS) xs) (bindL (fun x=>ns.lookup x) (zs.zip vals) L) (PySem.bindC (fun x=>ns.lookup x) (zs.zip vals) C)
 | [],xs,vals,m,L,C,a,r,hl,Mr=>by
  cases r with
  |nil=>exact Mr
  |cons=>exact nomatch hl
 |p::ps,xs,vals,m,L,C,a,r,hl,Mr=>by
  cases r with
  |nil=>exact nomatch hl
  | @cons v val xs vals r1 r2=>
   refine(?_ :zn g ns (eU (ae m (cS p) v) (ps.map cS) xs) (bindL (fun x=>ns.lookup x) (ps.zip vals) (if ns.lookup p=some .local then fun y=>if y=p then some val else L y else L)) (PySem.bindC (fun x=>ns.lookup x) (ps.zip vals) (if ns.lookup p=some .local then C else fun y=>if y=p then some val else C y)));refine mO ok (fun z h=>a z (.tail _ h)) r2 (Nat.succ.inj hl) fun y k u hk hm=>?_;have hp:=a p (.head _);have pk:∃k,bK ns p=some k:=hp.elim (fun q=>⟨_,q⟩) fun q=>⟨_,q⟩
   refine xE pk fun kp pk=>?_;by_cases c:y=p
   ·subst c;rw [du] at hm;refine bt hm ?_;rw [iB] at hk hp;refine⟨fun q=>?_,fun q=>?_⟩
    ·subst q;exact J (QM hk)<|⟨val,if_pos rfl,r1⟩
    ·subst q;refine J (QN (by exact J hk<|fun q=>nomatch q)) ?_;exact⟨val,if_pos rfl,r1⟩
   ·rw [bU fun q=>c (jH (gI ok hk).ok (gI ok pk).ok q)] at hm;refine xA (Mr y k u hk hm) fun q1 q2=>⟨fun q=>(q1 q).imp fun w e=>⟨?_,e.2⟩,fun q=>(q2 q).imp fun w e=>⟨?_,e.2⟩⟩
    ·split
     ·exact(QN c).trans e.1
     ·exact e.1
    ·split
     ·exact e.1
     ·exact(QN c).trans e.1
theorem Go(gr:Grows σ.s.heap h')(hL:env.locals=σ.s.heap.objs.size)(hc:env.cells=cellsFrom (σ.s.heap.objs.size+1) ns [])(x:InCallC σ.s env.locals L env.cells C {σ.s with heap:=h',toks:=tk})
  (hk:env.scope.kind=.function)(hg:env.globals=mainGlobals)(hb:env.builtins=builtinsNs)(ok:gu ns=true)(hn:env.scope.names=ns)(hf:∀z,bK ns z≠some .free)(Mr:zn σ.g ns m L C):
  Fr (σ.frm gr tk) ns env m/\∀b,iV ns env b->σ.s.heap.get? b=none:=by
 have l:Le dH σ (σ.frm gr tk):=σ.frm_le
 have nw:∀b,iV ns env b->σ.s.heap.get? b=none:=fun b hb=>by
  refine Or.elim hb (fun ρ=>?_) fun ρ=>?_
  ·exact J ρ<|J hL<|bu _
  ·refine bV ρ fun y k Y Y hc'=>?_;have:=x.above y b (fW hc');rw [hL] at this;exact i_ (Nat.le_of_lt this)
 refine⟨⟨hk,hg,hb,ok,fun y k e=>⟨k,by delta Env.kindOf;(refine J hn<|aQ (iB _ _) ?_);exact e,.inl rfl⟩,?_,⟨L,x.toInCall.ns,fun y v a b=>((Mr y _ v a b).1 rfl).imp fun val q=>⟨q.1,q.2.mono l.g⟩⟩,fun y k a b=>?_,fun y c e=>⟨fun q=>?_,fun z c' e' ne=>mT x.apart (fW e) (fW e') ne⟩⟩,nw⟩
 ·exact m5 x.toInCall.ns fun o es ep ho Y=>⟨o,σ.frm_at (nw _ (.inl rfl)) ho⟩
 ·refine Or.elim b (fun ρ=>?_) fun ρ=>?_
  ·subst ρ;have:=fV ns (σ.s.heap.objs.size+1) [] y (.inl (dW a));rw [<-hc] at this;refine xE (Option.isSome_iff_exists.mp this) fun c ec=>an (x.cell y c ec) fun o ho hd=>?_;have wc:=σ.frm_at (gr:=gr) (tk:=tk) (nw c (.inr ⟨y,_,a,.inl rfl,ec⟩)) ho;exact⟨c,ec,⟨o,by refine J wc ?_;rfl⟩,fun Y=>.inl ⟨o,wc⟩,C y,⟨o,ho,hd⟩,fun v hv=>((Mr y _ v a hv).2 rfl).imp fun val q=>⟨q.1,q.2.mono l.g⟩⟩
  ·subst ρ;exact absurd a (hf y)
 ·have:=x.above y c (fW e);rw [q] at this;exact Nat.lt_irrefl _ this
end
section
variable{O:CK}
structure DS(f:Nat)(ns:cW)(zs:List Str)(ds:List V)(body:List Stmt)(o:Obj)(fd:FuncData)(dv:List Value):Prop where
 look:K.lookup (ik f)=some o
 data:o.data=.func fd
 body:fd.body=.stmts body
 nms:fd.scope.names=ns
 kind:fd.scope.kind=.function
 co:fd.scope.isCoroutine=false
 gen:fd.scope.isGenerator=false
 clo:fd.closure= []
 gl:fd.globals=mainGlobals
 bi:fd.builtins=builtinsNs
 code:∃c oc vs t,fd.code=.ref c/\K.lookup c=some oc/\oc.data=.fields vs/\vs[1]? =some (.str fd.qualname t)
 ok:gu ns=true
 noFree:∀z,bK ns z≠some .free
 pars:∀z∈zs,bK ns z=some .local\/bK ns z=some .cell
 dvs:∀g,c6 g ds dv
 ld:ds.length<=zs.length
 binds:∀vals:List Value,vals.length<=zs.length->zs.length<=vals.length+ds.length->∀s:Shared,K.In s.heap->BindsTo s fd ⟨vals,[]⟩ (zs.zip (vals++dv.drop (ds.length - (zs.length - vals.length))))
theorem yA(L:h₀.NoLimit)(σ:VS):σ.s.heap.NoLimit:=by refine an L fun mc ρ hm=>eK ρ fun o es ep ho hd hs hf=>⟨mc,⟨o,es,ep,σ.r.ex _ _ (by refine J (σ.r.base _ _ ho (by decide)) ?_;rfl),hd,hs,hf⟩,hm⟩
theorem lK:∀{a:List α} {b:List β} {x:α×β},x∈a.zip b->x.1∈a
 | [],_,x,h=>by cases h
 |_::_,[],x,h=>by cases h
 |y::a,w::b,x,h=>by
  rw [List.zip_cons_cons] at h;refine pQ h ?_ fun h=>?_
  ·exact .head _
  ·exact .tail _ (lK h)
theorem pK(C:Cx)(lim:h₀.NoLimit)(F:DS f ns zs ds body o fd dv)(hA:kq (n+1) A)(e:nN (lY (zs.length - ds.length) zs ds) (fun Y=>none) xs k=some r)(rv:c6 σ.g xs vals)
  (h:∀env τ m,Le dH σ τ->τ.H=σ.H->Fr τ ns env m->(∀b,iV ns env b->∀o,σ.g.w b≠ .f o)->env.scope.names=ns->env.code=fd.code->env.qual=fd.qualname++".<locals>."->k m=some r->bZ n (A.deeper env)->
   ∀E,wpAny M (A.deeper env) (execs body env) (fun f s'=>R (.ok (.ret (match f with|.ret v=>v|_=>.none))) s') E τ.s):codeAny M A (.call (.ref (ik f)) ⟨vals,[]⟩) R σ.s:=by
 refine an (qM e) fun ys e1 e=>?_;rw [j8] at e;have ld:=F.ld;refine fp (p9 e1 (QF (ai 0x71850000421c6140040003 rfl (jI (ai 0x6140040185040002 rfl ld))) (ai 0x71801400401c6005040003 rfl (jw _ _)))) fun h1 h2 ρ=>?_;subst ρ;have lv:=rv.length;have kin:=σ.kin C.G.kin C.G.nt;refine eO F.code fun c oc vs t q1 q2 ψ7=>xA ψ7 fun q3 q4=>?_;obtain allr:c6 σ.g (xs++ds.drop (xs.length - (zs.length - ds.length))) (vals++dv.drop (ds.length - (zs.length - vals.length))):=by exact J (show ds.length - (zs.length - vals.length)=xs.length - (zs.length - ds.length) by omega)<|rv.app ((F.dvs σ.g).drop _)
 refine codeAny_call_function (by have:=hA.d;exact ai 0xfa0450304318000a0450000010000003e8105040042 rfl this) (kin _ _ F.look) F.data F.co F.gen F.body ⟨c,oc,vs,t,q1,kin _ _ q2,q3,q4⟩ ?_;refine F.binds vals (ai 0x1c50010861c0040185080003 rfl h1 lv) (ai 0x72001400402460011492000401c60050c0005 rfl h2 lv (jw _ _)) σ.s kin _ _ _ _<|J F.clo<|wpAny_newFunctionEnv_cells F.kind (fun x hx=>?_) fun env he s' x=>?_
 ·refine J F.nms<|aQ (iB _ _) ?_;exact(F.pars _ (lK hx)).imp id fun q=>⟨q,fV ns _ [] _ (.inl (dW q))⟩
 ·have hk:env.kindOf=fun x=>ns.lookup x:=by subst he;funext x;refine(?_ :fd.scope.names.lookup x=_);exact J F.nms rfl
  rw [hk] at x;obtain Mr:zn σ.g ns (eU (fun Y=>none) (zs.map cS) (xs++ds.drop (xs.length - (zs.length - ds.length)))) _ _:=mO F.ok (L:=fun Y=>none) (C:=fun Y=>none) F.pars allr (by(refine J QI<|J List.length_drop ?_);omega) fun y k u hi hm=>nomatch hm;refine dy x.done fun h1 tk1 e1 g1=>?_;subst e1;refine xA (Go g1 (by subst he;rfl) (by subst he;refine(?_ :cellsFrom _ fd.scope.names []=_);exact J F.nms rfl) x (by subst he;exact F.kind) (by subst he;exact F.gl) (by subst he;exact F.bi) F.ok (by subst he;exact F.nms) F.noFree Mr) fun fr nw=>?_
  exact⟨yA lim (σ.frm g1 tk1),codeAny_func (h env (σ.frm g1 tk1) _ σ.frm_le rfl fr (fun b hb o q=>by rw [σ.r.live b (nw b hb)] at q;exact Ow.noConfusion q) (by subst he;exact F.nms) (by subst he;rfl) (by subst he;rfl) e
   ⟨by have:=hA.d;exact ai 0x3e81140c10c600028114000004000000fa04643180281043140000040002 rfl this,by obtain this:=hA.u;exact ai 0x7503043180064045000001007f031819010c3140000040003 rfl this,hA.h,hA.g⟩ _)⟩
theorem A9(C:Cx)(lim:h₀.NoLimit)(F:DS f ns zs ds body o fd dv)(hE:∀env,env.scope.names=ns->env.code=fd.code->env.qual=fd.qualname++".<locals>."->EP env)(ib:dS n EP ns (aF O b) body)
  (hA:kq (n+1) A){k:KV}(e:bG O ⟨lY (zs.length - ds.length) zs ds,b⟩ xs σ.H k=some r)(rv:c6 σ.g xs vals){R:Result->Shared->Prop}(hR:Fin σ k r fun val s'=>R (.ok (.ret val)) s'):codeAny M A (.call (.ref (ik f)) ⟨vals,[]⟩) R σ.s:=by
 refine pK C lim F hA (show nN _ _ xs (fun m=>aF O b m σ.H (fun Y h=>k .none h) (fun Y Y=>none) k)=some r from e) rv fun env τ m l eh fr nf hn hc hq e rE E=>?_;have out:∀{υ},Le (dF ns env) τ υ->Le dH σ υ:=fun l2=>(l.wide.trans l2).narrow fun b o q=>nf b q.has o;exact ib (A.deeper env) rE τ env m fr (hE env hn hc hq) _ _ _ r (J eh<|e) _ _ ⟨fun υ m' l2 f' e=>hR υ _ _ (out l2) .none e,fun υ m' l2 f' e=>nn e,fun υ v u l2 rv e=>hR υ v u (out l2) rv e⟩
end
structure ED:Prop where
 mg:∃m bm ob,h₀.Ns mainGlobals m/\m "__builtins__"=some (.ref bm)/\bm≠builtinsNs/\bm≠dN/\h₀.get? bm=some ob/\ob.cls=.type "module"/\ob.dict=some builtinsNs/\ob.data=.plain
structure JJ (ns:cW) (env:Env):Prop where
 hn:env.scope.names=ns
 noFree:∀z,bK ns z≠some .free
 code:∃c,env.code=.ref c/\CodeHd h₀ c dN
 qual:env.qual++"<lambda>"=ny
set_option tactic.hygienic true in
theorem rH(l:List Value)(h:TriplesOk l)(hn:codeAmong pos l=none)(ne:¬(a=pos.line/\b=pos.col)):codeAmong pos (l++ [rawInt a,rawInt b,c])=none:=by
 fun_induction TriplesOk l with
 |case1=>simp only[List.nil_append,codeAmong,rawInt];rw [if_neg];simp only[Bool.and_eq_true,beq_iff_eq,Int.ofNat_inj];intro q;exact ne ⟨QF (ai 0x6140042185040002 rfl q.1) (ai 0x5180045185040002 rfl q.1),Nat.le_antisymm (ai 0x6140042185040002 rfl q.2) (ai 0x5180045185040002 rfl q.2)⟩
 |case2 a' t b' u x eI ih=>
  simp only[List.cons_append,codeAmong] at hn ⊢;split at hn
  ·exact nn (Eq.symm hn)
  ·rename_i hc;exact J (QN hc)<|ih h hn
 |case3 l h1 h2=>exact h.elim
theorem DU
  {clos:List (Str×Addr)}{Q:Value->Shared->Prop}(hcl:closureFor scope env=pure clos)(hne:clos.isEmpty=false)(hge0:env.globals=mainGlobals)(hg:s.heap.Ns mainGlobals mg)(hcode:env.code=.ref c)(C:CodeHd s.heap c dN)(hP:s.heap.get? dN=some (tabObj ps))(ht:TriplesOk ps.toList)
  (hnf:codeAmong pos ps.toList=none)(hbm:mg "__builtins__"=some (.ref bm))(hne0:bm≠builtinsNs)(hneP:bm≠dN)(hbo:s.heap.get? bm=some ob)(hcls:ob.cls=.type "module")(hdict:ob.dict=some builtinsNs)(hdata:ob.data=.plain)
  (h:∀pm c' ctv oc vs t h' tk,Heap.ExtBut dN s.heap h'->s.heap.objs.size<=c'->c' < h'.objs.size->h'.get? c'=some oc->oc.data=.fields vs->vs[1]? =some (.str qual t)->h'.get? dN=some (tabObj (ps++ #[rawInt pos.line,rawInt pos.col,.ref c']))->
   Q (.ref h'.objs.size) {s with heap:=h'.push (kla_obj "<lambda>" qual params body scope clos pm c' ctv),toks:=tk}):
  wpAny M A (makeFunction "<lambda>" qual params (.expr body) scope env [] [] [] pos pos.line) Q E s:=by
 refine J (makeFunction_eq _ _ _ _ _ _ _ _ _ _ _) ?_;simp only[List.zip_nil_right,List.filterMap_nil,List.isEmpty_nil,if_true,pure_bind];delta makeTail;refine J hcl<|J hge0 ?_;refine QC (QD ?_);simp only[hne,Bool.false_eq_true,if_false];refine QC (wpAny_newTextTuple ?_);have g1:∀b o,s.heap.get? b=some o->(s.heap.push {cls:=.type "tuple",data:=.seq ((clos.mergeSort fun a b=>a.1.cps.toList<=b.1.cps.toList).map fun x=>Value.ref x.2).toArray}).get? b=some o:=fun b o e=>Heap.get?_push_of_some _ e;refine QC (wpAny_functionCodeX hcode ((C.keeps g1).code (g1 _ _ hP) ht) ((C.keeps g1).tab (g1 _ _ hP)) hnf fun c' h' tk hx hge hlt Y hrec htb hcc=>?_);have hx':Heap.ExtBut dN s.heap h':=fun b o hb' e=>hx b o hb' (g1 b o e);obtain hge':s.heap.objs.size<=c':=QQ (by exact J (Heap.size_push _ _)<|lin 0x10c5005000001 rfl _) hge;have hg':=hg.extBut hx' (by decide);refine QC (wpAny_builtinsFor hg' hbm hne0 (hx' _ _ hneP hbo) hcls hdict hdata ?_);refine QC (wpAny_nsGet hg' ?_);refine eO hrec fun c2 oc vs t e2 hoc ψ7=>xA ψ7 fun hd hv=>?_;obtain rfl:=Value.ref.inj e2;refine bP hcc fun P' Y Y ρ=>?_;obtain⟨⟨o2,vs2,f1,f2,f3,_⟩,_⟩:=ρ;rw [hoc] at f1;exact bt f1<|QC (QD (wpAny_newObj_type (h _ c' _ oc vs t h' tk hx' hge' hlt hoc hd hv htb.2) (by size_fits)))
theorem pp:∀{fr:List Nat} {l:List (Nat×V)},fL m fr=some l->l.map (·.1)=fr
 | [],l,e=>by refine bt e ?_;rfl
 |c::r,l,e=>by exact an (ah e) fun w Y e=>an (ah e) fun l e2 e=>bt e<|congrArg (c:: ·) (pp e2)
theorem mK(fr:Fr σ ns env m){cl:List (Str×Addr)}:∀{sc:cW} {l:List (Nat×V)},fL m (frees sc)=some l->(∀x,(x,NameKind.free)∈sc->bK ns x=some .cell/\∀c,env.cells.lookup x=some c->cl.lookup x=some c)->
  ∃vals,c6 σ.g (l.map (·.2)) vals/\aT (fun x val=>∃c o,cl.lookup x=some c/\(σ.g.w c).ob=some o/\o.data=.cell (some val)) ((sc.filter fun p=>p.2 == .free).map (·.1)) vals
 | [],l,e,h=>bt e<|⟨[],.nil,.nil⟩
 |(x,k)::sc,l,e,h=>by
  by_cases c:(k == .free)=true
  ·obtain rfl:=eq_of_beq c;refine an (ah (show aj (m (cS x)) (fun v=>aj (fL m (frees sc)) fun r=>some ((cS x,v)::r))=some l from e)) fun w e1 e=>an (ah e) fun l e2 e=>bt e<|an (mK fr e2 fun y hy=>h y (.tail _ hy)) fun vals v1 v2=>xA (h x (.head _)) fun h1 h2=>an (fr.cel x .cell h1 (.inl rfl)) fun cc hcc rc=>xE rc.ob fun o eo=>an rc.val fun v₀ ρ hv=>an ρ fun o' ho hd=>?_;rw [σ.r.ex _ _ eo] at ho;obtain rfl:=sj ho;refine an (hv w e1) fun val ρ rv=>?_;subst ρ;exact⟨val::vals,.cons rv v1,.cons ⟨cc,o,h2 cc hcc,eo,hd⟩ v2⟩
  ·obtain c':(k == .free)=false:=by exact fE ((k == NameKind.free)) (fun q=>absurd q c) (fun q=>by rfl)
   obtain e':fL m (frees sc)=some l:=by rw [show frees ((x,k)::sc)=frees sc by refine(?_ :@Bool.rec (fun Y=>List Nat) (frees sc) (cS x::frees sc) (k == .free)=_);exact J c' rfl] at e;exact e
   refine an (mK fr e' fun y hy=>h y (.tail _ hy)) fun vals v1 v2=>⟨vals,v1,?_⟩
   refine J List.filter_cons<|J (QN (by simpa using c)) ?_;exact v2
namespace Hp
variable(H:Hp)(k l:Nat)
theorem obj_use:(H.use l).obj k=H.obj k:=by cases H;rfl
theorem next_use:(H.use l).next=H.next:=by cases H;rfl
theorem used_use:(H.use l).used=l::H.used:=by cases H;rfl
end Hp
noncomputable def kP(w:Addr->Ow)(cs:List Addr)(D c:Addr)(oD oc:Obj)(b:Addr):Ow:=if b=D then .g oD else if b=c then .g oc else if b∈cs then(match w b with|.f o=>.g o|x=>x) else w b
theorem Bc{w:Addr->Ow}{cs:List Addr}{D c:Addr}{oD oc:Obj}:kP w cs D c oD oc D=.g oD:=QM rfl
theorem yn{w:Addr->Ow}{cs:List Addr}{D c:Addr}{oD oc:Obj}(n:c≠D):kP w cs D c oD oc c=.g oc:=by delta kP;(exact J (QN n)<|J (QM rfl) rfl)
set_option tactic.hygienic true in
theorem m8{w:Addr->Ow}{cs:List Addr}{D c:Addr}{oD oc:Obj}{b:Addr}(n1:b≠D)(n2:b≠c)(h:b ∉ cs\/∀o,w b≠ .f o):kP w cs D c oD oc b=w b:=by
 delta kP;refine J (QN n1)<|J (QN n2) ?_;split
 ·rename_i hm;split
  ·rename_i o e;exact absurd e ((h.resolve_left fun q=>q hm) o)
  ·rfl
 ·rfl
theorem lM{w:Addr->Ow}{cs:List Addr}{D c:Addr}{oD oc:Obj}{b:Addr}(n1:b≠D)(n2:b≠c)(h:b∈cs){o:Obj}(e:(w b).ob=some o):kP w cs D c oD oc b=.g o:=by delta kP;refine J (QN n1)<|J (QN n2)<|J (QM h) ?_;cases q:w b<;>obtain e:=q▸e<;>first|exact nn e|(refine bt e ?_;rfl)
theorem VS.lam(σ:VS){cs:List Addr}{D c:Addr}{oD oc:Obj}{h':Heap}{tk:Tok}{ln:Nat}(hx:Heap.ExtBut dN σ.s.heap h')(wD:σ.g.w D=.free)(wc:σ.g.w c=.free)(eD:h'.get? D=some oD)(ec:h'.get? c=some oc)(ht:HY (ln::σ.H.used) h'):
  ∃τ:VS,τ.s={σ.s with heap:=h',toks:=tk}/\τ.g=⟨σ.g.m,kP σ.g.w cs D c oD oc⟩/\τ.H=σ.H.use ln/\σ.g.le τ.g:=by
 have up:∀{b o},σ.s.heap.get? b=some o->b≠dN->h'.get? b=some o:=fun{b o} e n=>hx b o n e;have nt:∀{b},σ.g.w b≠ .t->b≠dN:=fun{b} h q=>h (q▸σ.r.tab.1);have keep:∀b,b≠D->b≠c->(∀o,σ.g.w b≠ .f o)->kP σ.g.w cs D c oD oc b=σ.g.w b:=fun b n1 n2 h=>m8 n1 n2 (.inr h);have ne:∀{b},σ.g.w b≠ .free->b≠D/\b≠c:=fun{b} h=>⟨fun q=>h (q▸wD),fun q=>h (q▸wc)⟩
 have le:σ.g.le ⟨σ.g.m,kP σ.g.w cs D c oD oc⟩:=⟨fun Y Y e=>e,fun b o e=>by
  refine xA (ne (J e<|Ow.noConfusion)) fun n1 n2=>?_;exact(keep b n1 n2 (J e<|fun Y=>Ow.noConfusion)).trans e⟩
 refine⟨⟨{σ.s with heap:=h',toks:=tk},_,σ.H.use ln,⟨fun b o e=>?_,fun b e=>?_,fun b o e n=>le.w _ _ (σ.r.base b o e n),fun k hk=>σ.r.new k (by rwa [Hp.next_use] at hk),fun k o e=>?_,⟨?_,by refine J (Hp.used_use _ _) ?_;exact ht⟩⟩⟩,rfl,rfl,rfl,le⟩
 ·replace e:(kP σ.g.w cs D c oD oc b).ob=some o:=e;refine(?_ :h'.get? b=some o);by_cases n1:b=D
  ·subst n1;rw [Bc] at e;exact bt e<|eD
  ·by_cases n2:b=c
   ·subst n2;rw [yn n1] at e;exact bt e<|ec
   ·have:(σ.g.w b).ob=some o:=by
     by_cases hm:b∈cs
     ·refine iS ((σ.g.w b).ob) (fun q=>?_) fun o' q=>?_
      ·rw [keep b n1 n2 fun o z=>by rw [z] at q;exact nn q.symm,q] at e;exact nn e
      ·rw [lM n1 n2 hm q] at e;exact e
     ·obtain e:=(m8 n1 n2 (.inl hm))▸e;exact e
    exact up (σ.r.ex _ _ this) (nt fun q=>by rw [q] at this;exact nn this)
 ·obtain hb:σ.s.heap.get? b=none:=by
   refine iS (σ.s.heap.get? b) (fun q=>?_) fun o q=>?_
   ·rfl
   ·by_cases nt':b=dN
    ·refine an ht fun ps h1 Y=>?_;(obtain e:=nt'▸e;obtain e:=h1▸e);exact nn (Eq.symm e)
    ·rw [up q nt'] at e;exact nn (Eq.symm e)
  have wb:=σ.r.live b hb;have n1:b≠D:=fun q=>by(obtain e:=q▸e;obtain e:=eD▸e);exact nn (Eq.symm e)
  have n2:b≠c:=fun q=>by(obtain e:=q▸e;obtain e:=ec▸e);exact nn (Eq.symm e)
  exact(keep b n1 n2 (J wb<|fun Y=>Ow.noConfusion)).trans wb
 ·rw [Hp.obj_use] at e;refine(σ.r.has k o e).imp id fun⟨a,d,h1,h2,h3,h4⟩=>?_;have same:∀{b},σ.g.w b=.k k->kP σ.g.w cs D c oD oc b=.k k/\h'.get? b=σ.s.heap.get? b:=fun{b} q=>by refine xA (ne (J q<|Ow.noConfusion)) fun n1 n2=>?_;refine xE (σ.r.old (J q<|Ow.noConfusion)) fun o eo=>?_;exact⟨(keep b n1 n2 (J q<|fun Y=>Ow.noConfusion)).trans q,(up eo (nt (J q<|Ow.noConfusion))).trans eo.symm⟩
  exact⟨a,d,h1,(same h2).1,(same h3).1,h4.mono le (same h2).2 (same h3).2⟩
 ·refine xA (ne (J σ.r.tab.1<|Ow.noConfusion)) fun n1 n2=>?_;exact(keep dN n1 n2 (J σ.r.tab.1<|fun Y=>Ow.noConfusion)).trans σ.r.tab.1
section
variable{O:CK}
theorem zp(H:Hp)(l:Nat):(H.cas fun Y Y Y Y u=>ji u l)=ji H.used l:=by cases H;rfl
theorem wT(h:ji (y::l) x=false):y≠x/\ji l x=false:=by
 have h:@Bool.rec (fun Y=>Bool) (ji l x) true (Nat.beq y x)=false:=h;refine fE (Nat.beq y x) (fun q=>?_) fun q=>?_
 ·rw [q] at h;exact nomatch h
 ·rw [q] at h;exact⟨fun e=>(by rw [e,Nat.beq_refl] at q;exact nomatch q),h⟩
theorem tJ(d1:a.defaults= [])(d2:a.kw_defaults= []):defaultsOf a env=([],[]):=by cases a;dsimp only at d1 d2;subst d1 d2;rfl
theorem FM(C:Cx)(LC:ED)(hE:∀env,EP env->JJ ns env):qy n O EP ns:=by
 intro t a b sc q p;refine uO (P:=fun s=>c_ n EP ns (aF O s) (.Assign [t] (.Lambda a b sc q) p)) t dU fun z py ρ=>J ρ<|gE fun h=>xA (aX h) fun hz h=>xA (aX h) fun ok h=>xA (aX h) fun cp h=>xA (aX h) fun hd hne=>xA (aX hd) fun hd1 hd2=>?_;have hz:=jW hz;intro A hA σ env m fr ep kn kb kr r e Q E hQ;have ec:=hE env ep;have nd:=oN ok;replace e:@Bool.rec (fun Y=>KX) (ag (fL m (frees sc.names)) fun e=>kn (ae (ae m (cS z) (.clo (.Lambda a b sc q) e)) 0 .none) (σ.H.use q.line)) none (σ.H.cas fun Y Y Y Y u=>ji u q.line)=some r:=e;rw [zp] at e
 cases hu:ji σ.H.used q.line with
 |true=>rw [hu] at e;exact nn e
 |false=>
 rw [hu] at e;refine an (aZ e) fun l em e=>?_
 have cap:∀{x},bK sc.names x=some .free->bK ns x=some .cell/\∃c,env.cells.lookup x=some c/\rn σ m x .cell c:=fun{x} hx=>by
  refine an (qH cp hx) fun k h1 h2=>Or.elim h2 (fun ρ=>?_) fun ρ=>?_
  ·subst ρ;exact an (fr.cel x _ h1 (.inl rfl)) fun c hc rc=>⟨h1,c,hc,rc⟩
  ·subst ρ;exact absurd h1 (ec.noFree x)
 have clook:∀{x c},(fB env.cells sc.names []).lookup x=some c->bK sc.names x=some .free/\env.cells.lookup x=some c:=fun{x c} e=>by refine xA (ze nd e) fun h1 h2=>og (cap h1) fun Y c' hc Y=>?_;rw [hc] at h2;exact⟨h1,J hc<|congrArg some h2.symm⟩
 obtain hclos:=mh (fun x hx=>by refine og (cap hx) fun Y c hc Y=>J hc ?_;rfl) nd
 obtain hempty:(fB env.cells sc.names []).isEmpty=false:=by
  cases y:frees sc.names with
  |nil=>rw [y] at hne;exact nomatch hne
  |cons c0 r0=>
   refine an (iR (J y<| .head _)) fun x hx Y=>?_;refine og (cap (eY nd hx)) fun Y c hc Y=>?_;have:=tD (eY nd hx) hc;refine Pl (fB env.cells sc.names []) (fun w=>?_) fun Y Y w=>?_
   ·obtain this:=w▸this;exact nn this
   ·rfl
 refine bI LC.mg fun mg bm ob b1 b2 b3 b4 b5 ψ7=>fp ψ7 fun b6 b7 b8=>an ec.code fun c hc CH=>og σ.r.tab fun wt ps hP ψ0=>xA ψ0 fun ht hnf=>?_;have base:∀{b o},h₀.get? b=some o->b≠dN->σ.s.heap.get? b=some o:=fun{b o} e ne=>σ.r.ex b o (by refine J (σ.r.base b o e ne) ?_;rfl);obtain hN:σ.s.heap.Ns mainGlobals mg:=by exact eK b1 fun o es ep ho hd hs hf=>⟨o,es,ep,base ho (by decide),hd,hs,hf⟩
 obtain CH':CodeHd σ.s.heap c dN:=by exact ij CH fun o vs ψ0=>da ψ0 fun file tf flags tg inF text tt e q1 ψ1=>ez ψ1 fun q2 q3 q4 q5 ψ2=>fi ψ2 fun q6 q7 q8 ne=>⟨o,vs,file,tf,flags,tg,inF,text,tt,base e ne,q1,q2,q3,q4,q5,q6,q7,q8,ne⟩
 refine wpAny_Assign_stores ?_ rfl rfl;obtain d1:=List.isEmpty_iff.mp hd1;obtain d2:=List.isEmpty_iff.mp hd2;refine kla_eval (tJ d1 d2)<|J ec.qual<|DU hclos hempty fr.gl hN hc CH' hP ht (hnf q hu) b2 b3 b4 (base b5 b4) b6 b7 b8 fun pm c' ctv oc ovs t h1 tk hx hge hlt hoc hd hv1 htb=>?_;have hD:(h1.push (kla_obj "<lambda>" ny a b sc (fB env.cells sc.names []) pm c' ctv)).get? h1.objs.size=some (kla_obj "<lambda>" ny a b sc (fB env.cells sc.names []) pm c' ctv):=Heap.get?_push_size _ rfl;have up1:∀{b' o},h1.get? b'=some o->(h1.push (kla_obj "<lambda>" ny a b sc (fB env.cells sc.names []) pm c' ctv)).get? b'=some o:=fun e=>Heap.get?_push_of_some _ e;have hx':Heap.ExtBut dN σ.s.heap (h1.push (kla_obj "<lambda>" ny a b sc (fB env.cells sc.names []) pm c' ctv)):=fun b' o n e=>up1 (hx b' o n e);generalize (h1.push (kla_obj "<lambda>" ny a b sc (fB env.cells sc.names []) pm c' ctv))=h3 at hD up1 hx' ⊢;let cs:List Addr:=(sc.names.filter fun p=>p.2 == .free).map fun p=>(env.cells.lookup p.1).getD 0;have wD:=σ.r.live h1.objs.size (i_ (QQ hge (Nat.le_of_lt hlt)));have wc:=σ.r.live c' (i_ hge)
 obtain tabR:HY (q.line::σ.H.used) h3:=⟨_,up1 htb,by
  exact J (show(ps++ #[rawInt q.line,rawInt q.col,.ref c']).toList=ps.toList++ [rawInt q.line,rawInt q.col,.ref c'] by simp)<|TriplesOk_snoc _ _ _ _ ht,fun p' hp=>by
  exact xA (wT hp) fun n1 n2=>J (show(ps++ #[rawInt q.line,rawInt q.col,.ref c']).toList=ps.toList++ [rawInt q.line,rawInt q.col,.ref c'] by simp)<|rH _ ht (hnf p' n2) fun z=>n1 z.1⟩
 refine bA (σ.lam (cs:=cs) (tk:=tk) hx' wD wc hD (up1 hoc) tabR) fun τ hs hg hH le=>?_;have hw:τ.g.w=kP σ.g.w cs h1.objs.size c' (kla_obj "<lambda>" ny a b sc (fB env.cells sc.names []) pm c' ctv) oc:=J hg rfl;obtain hh:τ.s.heap=h3:=J hs rfl;obtain nDc:=QY hlt;have inC:∀{b'},b'∈cs->∃x,bK ns x=some .cell/\env.cells.lookup x=some b':=fun{b'} hm=>by refine an (List.mem_map.mp hm) fun ρ0 hm2 ρ2=>?_;obtain⟨x,k⟩:=ρ0;subst ρ2;refine xA (List.mem_filter.mp hm2) fun hm2 hk=>?_;obtain rfl:=eq_of_beq hk;refine og (cap (eY nd hm2)) fun h1 c2 hc2 Y=>⟨x,h1,by refine J hc2 ?_;rfl⟩
 have toC:∀{x c2},bK sc.names x=some .free->env.cells.lookup x=some c2->c2∈cs:=fun{x c2} hx hc2=>List.mem_map.mpr ⟨(x,.free),List.mem_filter.mpr ⟨dW hx,rfl⟩,by refine J hc2 ?_;rfl⟩;have Jf:∀{b' o},(σ.g.w b').ob=some o->b'≠h1.objs.size/\b'≠c'/\τ.s.heap.get? b'=σ.s.heap.get? b':=fun{b' o} eo=>by have eh:=σ.r.ex _ _ eo;refine⟨fun y=>by rw [y,wD] at eo;exact nn eo,fun y=>by rw [y,wc] at eo;exact nn eo,?_⟩;refine J hh<|J eh ?_;exact hx' _ _ (fun y=>by rw [y,wt] at eo;exact nn eo) eh
 refine xE fr.loc fun oL wL=>?_;obtain eL:(σ.g.w env.locals).ob=some oL:=by refine J wL ?_;rfl
 obtain nL:env.locals ∉ cs:=fun hm=>an (inC hm) fun x Y hx=>(fr.apart x _ hx).1 rfl
 have fr':Fr τ ns env (ae m 0 .none):=by
  refine an fr.val fun L hL hv=>?_;have nz:∀{y k v},bK ns y=some k->ae m 0 .none (cS y)=some v->m (cS y)=some v:=fun hy e=>by rwa [bU (gI fr.ok hy).nz] at e
  refine fp (Jf eL) fun f1 f2 f3=>⟨fr.fnk,fr.gl,fr.bi,fr.ok,fr.kinds,⟨oL,by(refine J hw<|J (m8 f1 f2 (.inl nL)) ?_);exact wL⟩,⟨L,jS hL f3,fun y v a' b'=>(hv y v a' (nz a' b')).imp fun val q=>⟨q.1,q.2.mono le⟩⟩,fun y k a' b'=>?_,fr.apart⟩
  refine an (fr.cel y k a' b') fun c2 hc2 ρ=>?_;obtain⟨⟨o2,eo2⟩,_,v₀,ic,hv2⟩:=ρ;refine fp (Jf eo2) fun g1 g2 g3=>⟨c2,hc2,⟨o2,?_⟩,fun Y=>.inr (J (du _ _ _)<|fun y=>nn y.symm),v₀,iZ ic g3,fun v e=>(hv2 v (nz a' e)).imp fun val q=>⟨q.1,q.2.mono le⟩⟩
  refine J hw ?_;by_cases hm:c2∈cs
  ·refine J (lM g1 g2 hm eo2) ?_;rfl
  ·exact J (m8 g1 g2 (.inl hm))<|eo2
 have lo:Le (dF ns env) σ τ:=⟨le,fun b' o eb n=>by
  refine fp (Jf (show(σ.g.w b').ob=some o by refine J eb ?_;rfl)) fun f1 f2 Y=>?_
  (refine J hw<|J (m8 f1 f2 (.inl fun hm=>n (an (inC hm) fun x h1 h2=>.inr ⟨x,h1,h2⟩))) ?_);exact eb,J hs rfl⟩
 obtain⟨vals,v1,v2⟩:=mK fr em fun x hx=>by exact og (cap (eY nd hx)) fun h1 c2 hc2 Y=>⟨h1,fun c3 h3=>tD (eY nd hx) h3⟩
 obtain cf:wG τ.g (.Lambda a b sc q) h1.objs.size vals (l.map (·.1)):=by
  obtain a2:aT (fun x val=>∃c o,(fB env.cells sc.names []).lookup x=some c/\τ.g.w c=.g o/\o.data=.cell (some val)) ((sc.names.filter fun p=>p.2 == .free).map (·.1)) vals:=v2.mono fun x val h=>by exact bV h fun c2 o y1 y2 y3=>fp (Jf y2) fun g1 g2 Y=>xA (clook y1) fun y4 y5=>⟨c2,o,y1,J hw<|lM g1 g2 (toC y4 y5) y2,y3⟩
  refine⟨a,b,sc,q,_,pm,c',ctv,oc,ovs,t,rfl,by refine J hw<|Bc,by refine J hw<|yn nDc,hd,hv1,pp em,ok,a2,fun x y c2 e1 e2=>?_,fun x c2 e1=>?_⟩
  ·have h1:=(clook e1).2;have h2:=(clook e2).2;by_cases ne:x=y
   ·exact ne
   ·exact absurd rfl ((fr.apart x c2 h1).2 y c2 h2 ne)
  ·refine xA (clook e1) fun h1 h2=>og (cap h1) fun Y c3 hc3 r3=>?_;rw [h2] at hc3;obtain rfl:=sj hc3;exact xE r3.ob fun o eo=>fp (Jf eo) fun g1 g2 Y=>⟨o,J hw<|lM g1 g2 (toC h1 h2) eo⟩
 obtain rv:VR τ.g (.clo (.Lambda a b sc q) l) (.ref h1.objs.size):=
  .clo _ _ _ vals cf (by obtain this:=v1.length;rwa [List.length_map] at this) fun i p v e1 e2=>(v1.at i p.2 v (by(refine J (List.getElem?_map) ?_;refine J e1 ?_);rfl) e2).mono le
 refine aQ hs<|(?_ :wpAny _ _ (assign (.Name z py) env (.ref h1.objs.size)) _ _ _);refine J (arm_assign_Name _ _ _ _)<|QC (wpAny_standAt (jE fr' hz (.inl rfl) rv fun υ l2 eh f2=>?_));refine hQ.next υ _ (lo.trans l2) f2 ?_;refine J eh<|J hH<|J (oK (gI fr.ok hz).nz.symm) ?_;exact e
end
theorem KN(hp:fd.params=⟨[],[⟨MW,a,p⟩],none,[],[],none,[]⟩)(hd:fd.defaults=.none):bindArgs fd ⟨[v],[]⟩=pure [(MW,v)]:=by cases fd;subst hp;subst hd;kernel_rfl
theorem J9(hp:fd.params=⟨[],[⟨NW,a,p⟩,⟨Ny,b,q⟩],none,[],[],none,[]⟩)(hd:fd.defaults=.none):bindArgs fd ⟨[v,u],[]⟩=pure [(NW,v),(Ny,u)]:=by cases fd;subst hp;subst hd;kernel_rfl
section
variable{O:CK}{z:Str}
theorem jy:∀{zs:List Str} {ys:List V} {vals:List Value} {m:Loc},c6 g ys vals->ys.length=zs.length->(∀y∈zs,i5 y=true)->i5 z=true->eU m (zs.map cS) ys (cS z)=some v->
  (zs.zip vals).reverse.lookup z=none/\m (cS z)=some v\/∃val,(zs.zip vals).reverse.lookup z=some val/\VR g v val
 | [],ys,vals,m,rv,hl,hz,ho,e=>by
  cases rv with
  |nil=>exact .inl ⟨rfl,e⟩
  |cons=>exact nomatch hl
 |p::zs,ys,vals,m,rv,hl,hz,ho,e=>by
  cases rv with
  |nil=>exact nomatch hl
  | @cons y val ys vals r1 r2=>
   obtain ih:=jy r2 (Nat.succ.inj hl) (fun q h=>hz q (.tail _ h)) ho e;refine J List.zip_cons_cons<|J List.reverse_cons<|J iT ?_;refine Or.elim ih (fun ρ=>?_) fun ρ=>?_
   ·refine xA ρ fun h1 h2=>J h1<|(?_ :([(p,val)].lookup z=none/\_)\/∃w,[(p,val)].lookup z=some w/\_);refine J List.lookup_cons ?_;by_cases c:z=p
    ·subst c;rw [du] at h2;exact bt h2<|J (beq_self_eq_true _)<| .inr ⟨val,rfl,r1⟩
    ·rw [bU fun q=>c (jH ho (hz p (.head _)) q)] at h2;exact J (show(z == p)=false from beq_eq_false_iff_ne.mpr c)<| .inl ⟨rfl,h2⟩
   ·exact an ρ fun val' h1 h2=>J h1<| .inr ⟨val',rfl,h2⟩
theorem kS:∀(sc:cW),frees sc=((sc.filter fun p=>p.2 == .free).map (·.1)).map cS
 | []=>rfl
 |(x,k)::sc=>by
  refine(?_ :@Bool.rec (fun Y=>List Nat) (frees sc) (cS x::frees sc) (k == .free)=_);refine J List.filter_cons<|fE ((k == NameKind.free)) (fun q=>?_) fun q=>?_
  ·exact J (QM rfl)<|congrArg (cS x:: ·) (kS sc)
  ·exact J (QN Bool.false_ne_true)<|kS sc
theorem Bz(a:aT P names cvals):∀{cX:List (Nat×V)},c6 g (cX.map (·.2)) cvals->cX.map (·.1)=names.map cS->(∀y∈names,i5 y=true)->i5 z=true->∀{v},dJ cX (cS z)=some v->∃val,P z val/\VR g v val:=by
 induction a with
 |nil=>
  intro cX rv ec _ _ v e
  cases cX with
  |nil=>exact nn e
  |cons=>exact nomatch ec
 | @cons x val names cvals h t ih=>
  intro cX rv ec hz ho v e
  cases cX with
  |nil=>exact nomatch ec
  |cons p cX=>
   obtain⟨c,w⟩:=p;injection ec with e1 e2
   cases rv with
   |cons r1 r2=>
    have e:ae (dJ cX) c w (cS z)=some v:=e;by_cases q:z=x
    ·subst q;rw [show c=cS z from e1,du] at e;exact bt e<|⟨val,h,r1⟩
    ·rw [bU fun y=>q (jH ho (hz x (.head _)) (y.trans e1))] at e;exact ih r2 e2 (fun y hy=>hz y (.tail _ hy)) ho e
theorem vV:∀{l:List (Nat×V)},dJ l k=some v->k∈l.map (·.1)
 | [],e=>nn e
 |(c,w)::l,e=>by
  have e:ae (dJ l) c w k=some v:=e;by_cases q:k=c
  ·exact J q<| .head _
  ·rw [bU q] at e;exact .tail _ (vV e)
theorem KY(e:OC b x=some r):b=true/\x=some r:=by cases b with|false=>exact nn e|true=>exact⟨rfl,e⟩
theorem kE(h:lF l=true):l= []:=by cases l with|nil=>rfl|cons=>exact d_ h
theorem A'(h:zP o=true):o=none:=by cases o with|none=>rfl|some=>exact d_ h
theorem Ki(h:vals.length= [z].length):∃v,vals= [v]:=by
 cases vals with
 |nil=>exact nomatch h
 |cons v r=>cases r with|nil=>exact⟨v,rfl⟩|cons=>exact nomatch h
theorem DB{a:Arguments}(h:and (and (lF a.posonlyargs) (zP a.vararg)) (and (and (lF a.kwonlyargs) (lF a.kw_defaults)) (and (zP a.kwarg) (lF a.defaults)))=true):a=⟨[],a.args,none,[],[],none,[]⟩:=by obtain⟨po,as,va,ko,kd,kw,df⟩:=a;refine xA (aX h) fun g1 h=>xA (aX h) fun g3 h=>?_;obtain rfl:=kE (aX g1).1;obtain rfl:=A' (aX g1).2;obtain rfl:=kE (aX g3).1;obtain rfl:=kE (aX g3).2;obtain rfl:=A' (aX h).1;obtain rfl:=kE (aX h).2;rfl
theorem uP{p:Arg}{z:Str}(h:Fast.sEq p.arg z=true):p=⟨z,p.annotation,p.pos⟩:=by refine aQ (Fast.sEq_iff.mp h) ?_;cases p;rfl
theorem Co(hz:MQ l=zs)(h:H3 zs l=true){fd:FuncData}{vals:List Value}(p1:fd.params=⟨[],l,none,[],[],none,[]⟩)(p2:fd.defaults=.none)(p3:vals.length=zs.length):bindArgs fd ⟨vals,[]⟩=pure (zs.zip vals):=by
 cases l with
 |nil=>subst hz;exact d_ h
 |cons p r=>cases r with
  |nil=>subst hz;refine xE (Ki p3) fun v ρ=>J ρ ?_;obtain p1:=(uP (aX h).1)▸p1;exact KN p1 p2
  |cons q r=>
   subst hz;refine xA (aX h) fun k1 h=>?_
   (obtain p1:=(kE (aX h).2)▸p1;obtain p1:=(uP (aX h).1)▸p1;obtain p1:=(uP k1)▸p1)
   cases vals with
   |nil=>exact nomatch p3
   |cons u vals=>exact xE (Ki (Nat.succ.inj p3)) fun v ρ=>J ρ<|J9 p1 p2
theorem zN:∀{zs:List Str} {l:List Arg},H3 zs l=true->l.map (·.arg)=zs:=by
 intro zs
 induction zs with
 |nil=>intro l h;refine J (kE h) ?_;rfl
 |cons z zs ih=>
  intro l h
  cases l with
  |nil=>exact d_ h
  |cons p l=>(exact J QV<|J (ih (aX h).2)<|J (Fast.sEq_iff.mp (aX h).1) rfl)
theorem IL{sc:Scope}(h:CW a sc=true):sc.kind=.function/\sc.isCoroutine=false/\sc.isGenerator=false/\(∀x∈sc.names,x.2≠ .cell)/\∃zs:List Str,a.args.map (·.arg)=zs/\(∀z∈zs,bK sc.names z=some .local)/\
  ∀(fd:FuncData) (vals:List Value),fd.params=a->fd.defaults=.none->vals.length=zs.length->bindArgs fd ⟨vals,[]⟩=pure (zs.zip vals):=by
 exact xA (aX h) fun h1 h=>xA (aX h1) fun h1 h3=>xA (aX h) fun h2 h=>xA (aX h) fun h5 h6=>⟨eq_of_beq h1,tT (aX h3).1,tT (aX h3).2,fun x hx q=>(by have:=List.all_eq_true.mp h2 x hx;rw [q] at this;exact nomatch this),MQ a.args,zN (aX h5).1,fun z hz=>jW (List.all_eq_true.mp (aX h5).2 z hz),fun fd vals p1 p2 p3=>Co rfl (aX h5).1 (p1.trans (DB h6)) p2 p3⟩
theorem IS(C:Cx)(lim:h₀.NoLimit)(cs:cF n O)(hA:kq (n+1) A)(e:runC O l cX xs σ.H k=some r)(rc:VR σ.g (.clo l cX) fv)(rv:c6 σ.g xs vals)
  (hR:Fin σ k r fun val s'=>R (.ok (.ret val)) s'):codeAny M A (.call fv ⟨vals,[]⟩) R σ.s:=by
 refine bV (zg rc) fun D cvals ρ clf renv=>J ρ<|ij clf fun a b ψ0=>ij ψ0 fun sc pos ψ1=>da ψ1 fun cl pm c' ctv oc vs t ρ11 w1 ψ2=>ez ψ2 fun w2 d1 d2 fs ψ3=>fi ψ3 fun ok a2 inj allg=>?_;subst ρ11;refine xA (KY (show OC (CW a sc) (nN (dq (fun p=>(cS p.arg,none)) a.args) (dJ cX) xs fun m=>bS O (cE 25 false sc.names b) m σ.H k)=some r from e)) fun hl e=>ez (IL hl) fun kind co gen noC ψ7=>bP ψ7 fun zs hzs hloc hb=>an (qM e) fun ys e1 e3=>?_;rw [dz] at e1 e3;obtain cds:(a.args.map fun p=>(cS p.arg,(none:Option V))).map (·.1)=zs.map cS:=by(refine aQ hzs<|J QZ<|J QZ ?_);rfl
 rw [cds] at e3
 obtain bv:∀{l:List Arg} {xs ys:List V},l_ (l.map fun p=>(cS p.arg,(none:Option V))) xs=some ys->ys=xs/\xs.length=l.length:=by
  intro l
  induction l with
  |nil=>intro xs ys e;cases xs with
   |nil=>refine bt e ?_;exact⟨rfl,rfl⟩
   |cons=>exact nn e
  |cons p l ih=>
   intro xs ys e
   cases xs with
   |nil=>exact nn e
   |cons x xs=>refine an (vn (show(l_ (l.map fun p=>(cS p.arg,(none:Option V))) xs).map (x:: ·)=some ys from e)) fun zs h1 ρ=>?_;subst ρ;refine xA (ih h1) fun ρ h2=>?_;subst ρ;exact⟨rfl,congrArg Nat.succ h2⟩
 refine xA (bv e1) fun ρ lx=>?_;subst ρ;have lz:ys.length=zs.length:=by(exact J lx<|aQ hzs<|J (QJ _) rfl)
 have lv:=rv.length;obtain nd:=oN ok;obtain eD:=σ.r.ex D _ (by refine J w1 ?_;rfl);refine kla_callFunE (by have:=hA.d;exact ai 0xfa0450304318000a0450000010000003e8105040042 rfl this) eD rfl co gen rfl ⟨c',oc,vs,t,rfl,σ.r.ex c' oc (by refine J w2 ?_;rfl),d1,d2⟩ ?_;refine J (hb _ vals rfl rfl (QF (ai 0x1c50010861c0042185080003 rfl lz lv) (ai 0x1c60011451c0045185080003 rfl lz lv)))<|QD (wpAny_newFunctionEnv noC (fun x hx=>aQ (iB _ _)<|hloc _ (lK hx)) (fun h1 hns sb=>?_) kind);have g1:Grows σ.s.heap h1:=fun b o e=>(sb.2 b (QY (Heap.lt_size e))).trans (Heap.get?_push_of_some _ e);have l:Le dH σ (σ.frm g1 (σ.s.toks+(zs.zip vals).length)):=σ.frm_le;have nmk:∀{x k},bK sc.names x=some k->i5 x=true:=fun h=>(gI ok h).ok;have okz:∀y∈zs,i5 y=true:=fun y hy=>nmk (hloc y hy);have fs':=fs.trans (kS _);have okf:∀y∈(sc.names.filter fun p=>p.2 == .free).map (·.1),bK sc.names y=some .free:=fun y hy=>by refine an (List.mem_map.mp hy) fun ρ0 hm ρ2=>?_;obtain⟨y',k⟩:=ρ0;refine aQ ρ2<|xA (List.mem_filter.mp hm) fun h1 h2=>?_;rw [show k=.free from eq_of_beq h2] at h1;exact eY nd h1
 obtain fr:Fr (σ.frm g1 (σ.s.toks+(zs.zip vals).length)) sc.names (newEnv sc σ.s.heap.objs.size mainGlobals cl (ny++".<locals>.") (some D) (.ref c') none builtinsNs) (eU (dJ cX) (zs.map cS) ys):=by
  refine m5 (id hns) fun oL Y Y hoL Y=>⟨kind,rfl,rfl,ok,fun x k e=>⟨k,(iB _ _).symm.trans e,.inl rfl⟩,⟨oL,σ.frm_at (bu _) hoL⟩,⟨_,hns,fun x v a b=>?_⟩,fun x k a b=>?_,fun x c e=>⟨?_,fun y c2 e' ne q=>ne (inj x y c e (q▸e'))⟩⟩
  ·refine Or.elim (jy rv lz okz (nmk a) b) (fun ρ=>?_) fun ρ=>?_
   ·refine xA ρ fun Y h2=>?_;have hm:=vV h2;rw [fs'] at hm;refine an (List.mem_map.mp hm) fun y hy ey=>?_;have fy:=okf y hy
    (obtain fy:=(jH (nmk fy) (nmk a) ey)▸fy;obtain fy:=a▸fy);cases fy
   ·exact an ρ fun val h1 h2=>⟨val,h1,h2.mono l.g⟩
  ·refine Or.elim b (fun ρ=>?_) fun ρ=>?_
   ·subst ρ;exact absurd rfl (noC _ (dW a))
   ·subst ρ;obtain hx:x∈(sc.names.filter fun p=>p.2 == .free).map (·.1):=List.mem_map.mpr ⟨(x,.free),List.mem_filter.mpr ⟨dW a,rfl⟩,rfl⟩;obtain⟨j,hj,ej⟩:=List.getElem_of_mem hx;refine an (a2.get (by(refine J (List.getElem?_eq_getElem hj) ?_;exact J ej rfl))) fun val Y ψ7=>bV ψ7 fun c o y1 y2 y3=>?_;have eo:(σ.g.w c).ob=some o:=by refine J y2 ?_;rfl
    refine xA (l.keep id eo) fun q1 q2=>⟨c,y1,⟨o,q1▸eo⟩,fun q=>(nomatch q),some val,iZ ⟨o,σ.r.ex _ _ eo,y3⟩ q2,fun v hv=>?_⟩
    refine Or.elim (jy rv lz okz (nmk a) hv) (fun ρ=>?_) fun ρ=>?_
    ·refine xA ρ fun Y h2=>an (Bz a2 renv fs' (fun y hy=>nmk (okf y hy)) (nmk a) h2) fun val2 ρ rz=>bV ρ fun c2 o2 z1 z2 z3=>?_;rw [y1] at z1;obtain rfl:=sj z1;rw [y2] at z2;cases z2;rw [y3] at z3;cases z3;exact⟨val,rfl,rz.mono l.g⟩
    ·refine an ρ fun val2 h1 Y=>?_;have:=hloc x (lK (List.mem_reverse.mp (fW h1)));rw [a] at this;cases this
  ·refine xE (allg x c e) fun o wo=>?_;have:=σ.r.ex c o (by refine J wo ?_;rfl);exact QY (Heap.lt_size this)
 refine⟨yA lim (σ.frm g1 (σ.s.toks+(zs.zip vals).length)),kla_codeExpr ?_⟩;exact tm C cs 25 false sc.names b (A.deeper _) ⟨by have:=hA.d;exact ai 0x3e81140c10c600028114000004000000fa04643180281043140000040002 rfl this,by obtain this:=hA.u;exact ai 0x7503043180064045000001007f031819010c3140000040003 rfl this,hA.h,hA.g⟩ (σ.frm g1 (σ.s.toks+(zs.zip vals).length)) _ _ fr _ r e3 _ _ fun υ v u l2 ru e=>hR υ v u (l.trans l2) ru e
end
theorem uA(e:gG b σ.H k=some r):∃τ:VS,Le dH σ τ/\τ.s=σ.s/\τ.g=σ.g/\k τ.H=some r:=by
 have e:ay (Nat.ble σ.H.next b) (k (σ.H.cut b)) none=some r:=by delta gG at e;revert e;cases σ.H;exact id
 refine xA (eA e) fun h1 e=>?_;obtain hn:(σ.H.cut b).next=b:=by cases σ.H;rfl
 obtain hu:(σ.H.cut b).used=σ.H.used:=by cases σ.H;rfl
 refine⟨⟨σ.s,σ.g,σ.H.cut b,⟨σ.r.ex,σ.r.live,σ.r.base,fun k hk=>σ.r.new k ?_,fun k o e=>σ.r.has k o (Hp.obj_cut _ _ e),by refine J hu ?_;exact σ.r.tab⟩⟩,⟨.refl _,fun Y Y e Y=>e,rfl⟩,rfl,rfl,e⟩;rw [hn] at hk;exact QQ (QG h1) hk
theorem LB{w:V}{c:V×V×V×V×V}(e:HF w v=some c):c.1=w/\v=.tup [c.2.1,c.2.2.1,c.2.2.2.1,c.2.2.2.2]:=by
 refine an (ah e) fun xs e1 e=>J (iH e1) ?_
 match xs,e with
 | [a,b,c,d],e=>refine bt e ?_;exact⟨rfl,rfl⟩
theorem An{up:Bool}:∀{l:List V} {cs:List (V×V×V×V×V)},lA up l=some cs->cs.map (Ef up)=l
 | [],cs,e=>by refine bt e ?_;rfl
 |v::l,cs,e=>by
  refine an (ah e) fun c e1 e=>an (ah e) fun cs e2 e=>bt e ?_;refine J QV<|J (An e2) ?_;congr 1
  cases up with
  |false=>exact(LB e1).2.symm
  |true=>
   refine an (ah (show aj (iJ v) _=some c from e1)) fun xs e3 e1=>J (iH e3) ?_
   match xs,e1 with
   | [w,x],e1=>refine xA (LB e1) fun h1 h2=>?_;(refine J h2<|aQ h1 ?_);rfl
theorem VS.see(σ:VS)(h1:σ.H.obj i=some o)(ng:o≠ .gone)(h:∀a d,OR σ.g σ.s.heap a d o->OR σ.g σ.s.heap a d o'):∃τ:VS,Le dH σ τ/\τ.s=σ.s/\τ.g=σ.g/\τ.H=σ.H.set i o':=by
 refine⟨⟨σ.s,σ.g,σ.H.set i o',⟨σ.r.ex,σ.r.live,σ.r.base,fun k hk=>σ.r.new k (by rwa [Hp.next_set] at hk),fun k o2 e=>?_,by refine J (Hp.used_set _ _ _) ?_;exact σ.r.tab⟩⟩,⟨.refl _,fun Y Y e Y=>e,rfl⟩,rfl,rfl,rfl⟩;rw [Hp.obj_set] at e;by_cases c:k=i
 ·subst c;rw [if_pos rfl] at e;exact bt e<|br ((σ.r.has k o h1).resolve_left ng) fun a d q1 q2 q3 q4=>.inr ⟨a,d,q1,q2,q3,h a d q4⟩
 ·rw [if_neg c] at e;exact σ.r.has k o2 e
theorem vZ(e:gq up lid xs σ.H k=some r):∃τ:VS,Le dH σ τ/\τ.s=σ.s/\τ.g=σ.g/\k τ.H=some r:=by
 match xs,e with
 |x::o::xs,e=>
  refine Or.elim (gL (show hL σ.H o (gi σ.H o none fun Y Y Y Y=>k σ.H) (fun i rs Y=>ag (lA up (bC rs)) fun cs=>k (σ.H.set i (.rows up lid cs)))=some r from e)) (fun ρ=>?_) fun e=>?_
  ·refine aI ρ fun i rs c ρ3 e1 e=>aQ ρ3<|an (aZ e) fun cs e2 e=>?_;have en:=An e2;rw [bq] at en;refine bA (σ.see (o':=.rows up lid cs) e1 (fun q=>nomatch q) fun a d ⟨q1,q2,vs,c,q3,q4⟩=>⟨q1,vs,c,q3,J en<|q4⟩) fun τ h1 h2 h3 h4=>?_;exact⟨τ,h1,h2,h3,J h4<|e⟩
  ·refine Or.elim (se e) (fun ρ=>?_) fun e=>?_
   ·exact eO ρ fun Y Y Y Y Y Y e=>⟨σ,.refl _,rfl,rfl,e⟩
   ·exact nn e
theorem G7(e:IG σ.H v k=some r)(rv:VR σ.g v u):∃(τ:VS) (x:V),Le dH σ τ/\τ.s=σ.s/\VR τ.g x u/\k x τ.H=some r:=by
 refine Or.elim (gL e) (fun ρ=>?_) fun e=>?_
 ·obtain⟨i,rs,c,rfl,e1,e⟩:=ρ;refine bI (σ.list e1 rv) fun a vs n ρ hm hw Y ho rl=>J ρ<|⟨σ.lend i a (.g _) hw (.g _ ho),.fl (bC rs),σ.lend_le,rfl,lr (cQ _ _ _) ?_,e⟩;exact J (bq _)<|rl.up (σ.lend_le (P:=dH)).g
 ·exact nn e
theorem Aq:∀{xs:List V} {σ:VS} {vals:List Value} {k:List V->Hp->KX},nW xs σ.H k=some r->c6 σ.g xs vals->∃(τ:VS) (ys:List V),Le dH σ τ/\τ.s=σ.s/\c6 τ.g ys vals/\k ys τ.H=some r
 | [],σ,vals,k,e,rv=>by cases rv;exact⟨σ,[],.refl _,rfl,.nil,e⟩
 |x::xs,σ,vals,k,e,rv=>by
  refine aT.c1 rv fun Y Y r1 r2=>?_
  ·exact br (G7 (show IG σ.H x (fun v h=>nW xs h fun vs h=>k (v::vs) h)=some r from e) r1) fun τ y l hs ry e=>br (Aq e (l.vrs r2)) fun υ ys l2 hs2 rys e=>⟨υ,y::ys,l.trans l2,hs2.trans hs,.cons (l2.vr ry) rys,e⟩
theorem IT(e:um σ.H v k=some r)(rv:VR σ.g v u):∃(τ:VS) (x:V),Le dH σ τ/\τ.s=σ.s/\VR τ.g x u/\k x τ.H=some r:=by
 refine Or.elim (gL e) (fun ρ=>?_) fun e=>?_
 ·obtain⟨i,rs,c,rfl,e1,e⟩:=ρ;refine bI (σ.list e1 rv) fun a vs n ρ hm hw Y ho rl=>J ρ ?_;have l:=σ.lend_le (P:=dH) (hc:=hw) (nw:=.g _ ho);have e:nW (bC rs) (σ.lend i a (.g _) hw (.g _ ho)).H (fun vs h=>k (.fl vs) h)=some r:=e;refine br (Aq e (J (bq _)<|rl.up l.g)) fun τ ys l2 hs ry e=>?_;exact⟨τ,.fl ys,l.trans l2,hs,lr (l2.g.w _ _ (cQ _ _ _)) ry,e⟩
 ·exact nn e
theorem Fs(e:yU xs σ.H k=some r)(rv:c6 σ.g xs vals):∃(τ:VS) (ys:List V),Le dH σ τ/\τ.s=σ.s/\c6 τ.g ys vals/\k ys τ.H=some r:=by
 match xs,e with
 |x::o::xs,e=>
  cases rv with
  |cons r1 r2=>
   refine aT.c1 r2 fun Y Y r2 r3=>?_
   ·exact br (IT (show um σ.H o (fun v h=>k (x::v::xs) h)=some r from e) r2) fun τ y l hs ry e=>⟨τ,_,l,hs,.cons (l.vr r1) (.cons ry (l.vrs r3)),e⟩
end
section
set_option maxRecDepth 100000
set_option maxHeartbeats 0
open PySem PySem.Calls PyProof.Rows PySem.W PySem.SeqAt
noncomputable def om(K:Frag)(a:Addr):Option (Obj×FuncData×List Stmt):=match K.lookup a with
 |some o=>match o.data with
  |.func fd=>match fd.body with
   |.stmts b=>some (o,fd,b)
   |_=>none
  |_=>none
 |none=>none
noncomputable def CZ(K:Frag)(fd:FuncData):List Value:=match fd.defaults with
 |.ref a=>match K.lookup a with
  |some o=>match o.data with
   |.seq xs _=>xs.toList
   |_=> []
  |none=> []
 |_=> []
noncomputable def zG(K:Frag)(fd:FuncData):Bool:=match fd.code with
 |.ref c=>match K.lookup c with
  |some o=>match o.data with
   |.fields vs=>match vs[1]? with
    |some v=>match v with
     |.str q _=>Fast.sEq q fd.qualname
     |_=>false
    |none=>false
   |_=>false
  |none=>false
 |_=>false
noncomputable def vB(x:V)(v:Value):Bool:=@V.casesOn (fun Y=>Bool) x (match v with|.none=>true|_=>false) (fun b=>match v with|.bool c=>b == c|_=>false) (fun i=>match v with|.int j _=>decide (i=j)|_=>false) (fun Y=>false) (fun Y=>false) (fun Y=>false) (fun Y=>false) (fun Y=>false) (fun Y=>false) (fun Y Y=>false) (fun Y=>false) fun Y Y=>false
def all2{α β:Type}(f:α->β->Bool)(as:List α):List β->Bool:=@List.rec α (fun Y=>List β->Bool) (fun bs=>@List.rec β (fun Y=>Bool) true (fun Y Y Y=>false) bs) (fun a Y ih bs=>@List.rec β (fun Y=>Bool) false (fun b r Y=>and (f a b) (ih r)) bs) as
def qE(a:Arguments):List V:=@Option.rec (List V) (fun Y=>List V) [] (fun l=>l) (M6 a.defaults)
def E'(K:Frag)(fd:FuncData):Bool:=
 and (and (and (fd.scope.kind == .function) (and (not fd.scope.isCoroutine) (not fd.scope.isGenerator))) (and fd.closure.isEmpty (and (Nat.beq fd.globals 3) (Nat.beq fd.builtins 0))))
  (and (and (zG K fd) (fd.scope.names.all fun p=>p.2 != .free)) (and ((iQ fd.params).all fun z=>AJ (bK fd.scope.names z)) (and (all2 vB (qE fd.params) (CZ K fd)) (Nat.ble (aq (qE fd.params)) (aq (iQ fd.params))))))
theorem Fg(h:vB v x=true)(g:Gh):VR g v x:=by
 cases v<;>first|exact d_ h|skip
 ·cases x<;>first|exact d_ h|exact .none
 ·cases x<;>first|exact d_ h|skip
  refine J (show _=_ from beq_iff_eq.mp h) ?_;exact .bool _
 ·cases x<;>first|exact d_ h|skip
  refine J (show _=_ from of_decide_eq_true h) ?_;exact .int _ _
theorem wk{R:α->β->Prop}(hf:∀a b,f a b=true->R a b):∀{as:List α} {bs:List β},all2 f as bs=true->aT R as bs
 | [],[],_=>.nil
 |a::as,b::bs,h=>.cons (hf _ _ (aX h).1) (wk hf (aX h).2)
 | [],_::_,h=>d_ h
 |_::_,[],h=>d_ h
theorem G_(vals:List Value):vals=(List.range vals.length).map fun i=>(vals[i]?).getD .none:=by
 apply List.ext_getElem?;intro i;by_cases h:i < vals.length
 ·(refine J (List.getElem?_map) ?_;refine J (List.getElem?_range h) ?_;refine J (Option.map_some _ _) ?_;refine J (List.getElem?_eq_getElem h) ?_);rfl
 ·(refine J (List.getElem?_eq_none (ai 0x5180044185040002 rfl h)) ?_;exact J (List.getElem?_eq_none (by simp;exact ai 0x5180044185040002 rfl h)) rfl)
set_option tactic.hygienic true in
theorem Il(h:zG K fd=true):∃c oc vs t,fd.code=.ref c/\K.lookup c=some oc/\oc.data=.fields vs/\vs[1]? =some (.str fd.qualname t):=by
 delta zG at h;split at h
 ·rename_i c hc;split at h
  ·rename_i o ho;split at h
   ·rename_i vs hvs;split at h
    ·rename_i v hv;split at h
     ·rename_i q t;exact⟨c,o,vs,t,hc,ho,hvs,by(refine J hv ?_;exact J (Fast.sEq_iff.mp h) rfl)⟩
     ·exact d_ h
    ·exact d_ h
   ·exact d_ h
  ·exact d_ h
 ·exact d_ h
set_option tactic.hygienic true in
theorem xl(e:om K a=some p):K.lookup a=some p.1/\p.1.data=.func p.2.1/\p.2.1.body=.stmts p.2.2:=by
 delta om at e;split at e
 ·rename_i o h;split at e
  ·rename_i fd h2;split at e
   ·rename_i b h3;refine bt e ?_;exact⟨h,h2,h3⟩
   ·exact nn e
  ·exact nn e
 ·exact nn e
theorem BS{p:Obj×FuncData×List Stmt}(e:om K (ik f)=some p)(hh:E' K p.2.1=true)(ok:gu p.2.1.scope.names=true)(hd:M6 p.2.1.params.defaults=some ds)
  (Bu:∀k,k<=(iQ p.2.1.params).length->(iQ p.2.1.params).length<=k+ds.length->∀(g:Nat->Value) S,peek K S (bindArgs p.2.1 ⟨(List.range k).map g,[]⟩)=some ((iQ p.2.1.params).zip ((List.range k).map g++(CZ K p.2.1).drop (ds.length - ((iQ p.2.1.params).length - k))))):
  DS f p.2.1.scope.names (iQ p.2.1.params) ds p.2.2 p.1 p.2.1 (CZ K p.2.1):=by
 obtain hds:qE p.2.1.params=ds:=by delta qE;exact J hd rfl
 refine fp (xl e) fun e1 e2 e3=>?_;refine xA (aX hh) fun a b=>?_;refine xA (aX a) fun a a2=>?_;refine xA (aX a) fun a1 a3=>?_;refine xA (aX a3) fun a3 a4=>?_;refine xA (aX a2) fun a5 a6=>?_;refine xA (aX a6) fun a6 a7=>?_;refine xA (aX b) fun b b2=>?_;refine xA (aX b) fun b0 b1=>?_;refine xA (aX b2) fun b3 b4=>?_;refine xA (aX b4) fun b4 b5=>?_;rw [hds] at b4 b5;refine⟨e1,e2,e3,rfl,beq_iff_eq.mp a1,tT a3,tT a4,List.isEmpty_iff.mp a5,Nat.eq_of_beq_eq_true a6,Nat.eq_of_beq_eq_true a7,Il b0,ok,fun z hz=>?_,fun z hz=>we (List.all_eq_true.mp b3 z hz),fun g=>wk (fun v x h=>Fg h g) b4,by(refine aQ (aw _) ?_;refine aQ (aw _) ?_);exact QG b5,fun vals l1 l2 s kin=>?_⟩
 ·have:=List.all_eq_true.mp b1 _ (dW hz);exact nomatch this
 ·have:=Bu vals.length l1 l2 (fun i=>(vals[i]?).getD .none);rw [<-G_ vals] at this;exact kp_binds kin this
def zI(P:Params)(f:Nat):Bool:=match om (KT P) (ik f) with
 |some p=>E' (KT P) p.2.1
 |none=>false
theorem Jl(P:Params):(List.range 54).all (zI P)=true:=by kernel_rfl
theorem Es(P:Params):(List.range 54).map (fun f=>(om (KT P) (ik f)).map fun p=>(p.2.1.params,p.2.1.scope,p.2.2))=CM.map fun st=>some (xj st,EA st,AW st):=by kernel_rfl
def GL:List (Nat×Nat):=(List.range 54).flatMap fun f=>match lN CM f with
 |some st=>(List.range ((qE (xj st)).length+1)).map fun j=>(f,(iQ (xj st)).length - j)
 |none=> []
def Gf(P:Params)(f:Nat):FuncData:=match om (KT P) (ik f) with
 |some p=>p.2.1
 |none=>default
theorem xD(P:Params)(g:Nat->Value)(S:Setting):(GL.map fun q=>peek (KT P) S (bindArgs (Gf P q.1) ⟨(List.range q.2).map g,[]⟩))=GL.map fun q=>some ((iQ (Gf P q.1).params).zip ((List.range q.2).map g++(CZ (KT P) (Gf P q.1)).drop ((qE (Gf P q.1).params).length - ((iQ (Gf P q.1).params).length - q.2)))):=by kernel_rfl
theorem kF(k:Kept w h₀):K.In h₀:=by
 obtain go:∀(n a b:Nat) (o:Obj),(xG (pU w.params) n a).lookup b=some o->a<=b/\b < a+n/\b≠466/\(pU w.params).get b=some o:=by
  intro n
  induction n with
  |zero=>intro a b o e;exact nomatch e
  |succ n ih=>
   intro a b o e;have eI:(xG (pU w.params) n (a+1)).lookup b=some o->a<=b/\b < a+(n+1)/\b≠466/\(pU w.params).get b=some o:=fun e=>by refine fp (ih _ _ _ e) fun h1 h2 h3=>?_;exact⟨ai 0x1810c5000040185040002 rfl h1,ai 0x70431800050010410c7006005040043 rfl h2,h3⟩
   replace e:(@Bool.rec (fun Y=>Frag) (@Option.rec Obj (fun Y=>Frag) (xG (pU w.params) n (a+1)) (fun o=>(a,o)::xG (pU w.params) n (a+1)) ((pU w.params).get a)) (xG (pU w.params) n (a+1)) (Nat.beq a 466)).lookup b=some o:=e
   cases h1:Nat.beq a 466 with
   |true=>obtain e:=h1▸e;exact eI e
   |false=>
    rw [h1] at e
    cases h2:(pU w.params).get a with
    |none=>obtain e:=h2▸e;exact eI e
    |some o'=>
     rw [h2] at e;dsimp only at e;rw [List.lookup_cons] at e;refine fE (b == a) (fun h3=>?_) fun h3=>?_
     ·rw [h3] at e;refine bt e ?_;refine J (beq_iff_eq.mp h3) ?_;exact⟨lin 0x145000001 rfl _,lin 0x10c6005005000042 rfl _ _,Nat.ne_of_beq_eq_false h1,h2⟩
     ·rw [h3] at e;exact eI e
 intro a o e;obtain e:=K_eq▸e;refine fi (go _ _ _ _ e) fun Y h2 Y h4=>?_;exact k a o (by simpa using h2) h4
theorem AU(P:Params):(KT P).lookup dN=none:=by
 refine iS ((KT P).lookup dN) (fun h=>?_) fun o h=>?_
 ·rfl
 ·exact nomatch (show(none:Option Obj)=some o from(show none=(KT P).lookup dN by kernel_rfl).trans h)
theorem gF{l:List α}(e:l.map f=l.map g){a:α}(m:a∈l):f a=g a:=List.map_inj_left.mp e a m
theorem je(e:aL Nat.beq es k=some v):(k,v)∈es:=mM natE e
theorem vF:∀{l:List Nat} {x:Nat},B7 l x=true->x∈l
 | [],_,e=>d_ e
 |p::r,x,e=>by
  have e:@Bool.rec (fun Y=>Bool) (B7 r x) true (Nat.beq p x)=true:=e;refine fE (Nat.beq p x) (fun h=>?_) fun h=>?_
  ·refine aQ (QT h) ?_;exact .head _
  ·obtain e:=h▸e;exact .tail _ (vF e)
theorem D_(P:Params):(List.range 5).map (fun c=>(findIn (KT P) (.ref (dQ c)) "__getattribute__",findIn (KT P) (.ref (dQ c)) "__getattr__",findIn (KT P) (.ref (dQ c)) "__setattr__",plainOver (KT P) (dQ c),(clsIn (KT P) (dQ c)).map (·.hasDict)))=(List.range 5).map fun Y=>(some (some (.builtin "object.__getattribute__")),some none,some (some (.builtin "object.__setattr__")),true,some true):=by kernel_rfl
noncomputable def Kr(c:Nat):List (Nat×Nat):=CB [] [(1818845542,2),(123836376964100440856159602,1),(34493592889344084795495703908,5),(122618043015082371160239971,4),(111546565289330,3),(461229090915,11),(122641728202117592946402674,12),(112628529194347,10),(139538485545997902115334243,6),(139543317441712559271274595,7),(121390633635295002043443299,8),(31399965885130828395336525923,9),(474182162637871001592180,14),(474182162637871185749355,15),(33618059247183214,16),(7632240,13),(6872339552563453791,0)]
 [(435761734006,23),(8243122732010005874,21),(125823003817315,22),(6579297,18),(465557414252,19),(435459026032,20),(114844899371366,24),(6872339552563453791,17)] [(6872339552563453791,26)] [(6872339552563453791,27)] [(544942865495848080795233,29),(6872339552563453791,28)] c
noncomputable def MM(c:Nat):List Nat:=CB [] [30787916450984560,435610083700,8386662845389893475,500069396323,1702060386,125823003817315,9146654716209542448838493892201,126905066285155,8319393663061222756,1937335659] [7565423,32491038722256739,2129618691208608441714,32495445325542755,495874698355,126879581958775,126909394608492,511885790367812037404014]
 [1701667182,1871002853623542610292,8751735898823353953,2037169923880594992995,7812748570489286510,32770348699510116] [1701667182,435610083700,1953460082,32491038722256739,111555088313973,121398985585263,7106931] [1701667182,1953460082,32491038722256739,122570819210907029706600306,32481190093287017,126905066285155,7106931,34184234955010672] c
theorem E7(f:Nat):∀c,jO c f=gJ (Kr c) f
 |0=>rfl|1=>rfl|2=>rfl|3=>rfl|4=>rfl|n+5=>rfl
theorem ET(f:Nat):∀c,kR c f=B7 (MM c) f
 |0=>rfl|1=>rfl|2=>rfl|3=>rfl|4=>rfl|n+5=>rfl
theorem Np{x:α}{l:Nat->List α}(h:∀n,l (n+5)= [])(m:x∈l c):c∈List.range 5:=by
 match c,m with
 |0,_|1,_|2,_|3,_|4,_=>exact List.mem_range.mpr (by decide)
 |n+5,m=>rw [h n] at m;exact nomatch m
theorem Bv(P:Params):(List.range 5).all (fun c=>(Kr c).all fun p=>and (not (B7 (MM c) p.1)) (and (keepIn (KT P) (.ref (ik p.2))) true))=true:=by kernel_rfl
theorem wQ(P:Params):(List.range 5).map (fun c=>(Kr c).map fun p=>(findIn (KT P) (.ref (dQ c)) (am p.1),typeIn (KT P) (.ref (ik p.2))))=(List.range 5).map fun c=>(Kr c).map fun p=>(some (some (.ref (ik p.2))),some (.type "function")):=by kernel_rfl
theorem wX(P:Params):(List.range 5).map (fun c=>(MM c).map fun f=>findIn (KT P) (.ref (dQ c)) (am f))=(List.range 5).map fun c=>(MM c).map fun Y=>some none:=by kernel_rfl
theorem yo(P:Params):(List.range 5).map (fun c=>(r_ c).map fun f=>(makesIn (KT P) (dQ c),findIn (KT P) (.ref (dQ c)) "__init__",typeIn (KT P) (.ref (ik f))))=(List.range 5).map fun c=>(r_ c).map fun f=>(true,some (some (.ref (ik f))),some (.type "function")):=by kernel_rfl
theorem GC(P:Params):Jx.map (fun p=>(nsIn (KT P) 3 (am p.1),keepIn (KT P) (.ref (ik p.2))))=Jx.map fun p=>(some (some (.ref (ik p.2))),true):=by kernel_rfl
theorem Ho(P:Params):K1.map (fun p=>(nsIn (KT P) 3 (am p.1),keepIn (KT P) (.ref (dQ p.2))))=K1.map fun p=>(some (some (.ref (dQ p.2))),true):=by kernel_rfl
theorem FK(P:Params):Ju.map (fun p=>(nsIn (KT P) 3 (am p.1),nsIn (KT P) 0 (am p.1)))=Ju.map fun p=>(some none,some (some (kM p.2))):=by kernel_rfl
theorem DY(P:Params):LF.map (fun p=>nsIn (KT P) 3 (am p.1))= [some (some (.ref 23)),some (some (.ref 24)),some (some (.ref 201))]:=by kernel_rfl
theorem Ge(P:Params):((KT P).lookup 22,(KT P).lookup 23)=(some {cls:=.type "tuple",data:=.seq #[.none,.none] 0},some {cls:=.type "tuple",data:=.seq #[.str (am 61) 196,.str (am 133532167858530) 197,.ref 22,.bool false] 0}):=by kernel_rfl
theorem vA(P:Params){c:Nat}(h:c∈List.range 5):KT P=K->vt (dQ c):=fun q=>by
 have e:=gF (D_ P) h;simp only[Prod.mk.injEq] at e;rw [q] at e;refine ez e fun e1 e2 e3 e4 e5=>?_;refine an (Option.map_eq_some_iff.mp e5) fun cd e6 e7=>?_;exact⟨⟨cd,e6,e7⟩,e1,e2,e3,e4⟩
theorem J1:Gc:=by
 refine⟨fun c n h=>?_,fun c n f h=>?_⟩
 ·rw [ET] at h;have m:=vF h;have c5:=Np (fun Y=>rfl) m;refine J K_eq ?_;exact⟨vA _ c5 K_eq.symm,gF (gF (wX w.params) c5) m⟩
 ·rw [E7] at h;have m:=je h;have c5:=Np (fun Y=>rfl) m;refine xA (aX (List.all_eq_true.mp (List.all_eq_true.mp (Bv w.params) _ c5) _ m)) fun h1 h2=>?_;have e:=gF (gF (wQ w.params) c5) m;simp only[Prod.mk.injEq] at e;refine J K_eq ?_;exact⟨vA _ c5 K_eq.symm,by refine J (ET _ _) ?_;exact tT h1,e.1,e.2,(aX h2).1⟩
noncomputable def oR(K:Frag)(a:Addr):List DictEntry:=match K.lookup a with
 |some o=>match o.data with
  |.dict es _=>es.toList
  |_=> []
 |none=> []
noncomputable def OT(e:Nat×V)(d:DictEntry):Bool:=and (match d.key with|.str x _=>Fast.sEq (am e.1) x|_=>false) (vB e.2 d.val)
theorem Hj(P:Params):and (all2 OT (qo 1) (oR (KT P) 24)) (all2 OT (qo 2) (oR (KT P) 201))=true:=by kernel_rfl
theorem BH(P:Params):(oR (KT P) 24).map (·.hash)=(qo 1).map fun e=>PyData.keyHash P (am e.1):=by kernel_rfl
theorem AD(P:Params):(oR (KT P) 201).map (·.hash)=(qo 2).map fun e=>PyData.keyHash P (am e.1):=by kernel_rfl
theorem Jz(P:Params):((KT P).lookup 24,(KT P).lookup 201,((KT P).lookup sysModules).isSome)=(some {cls:=.type "dict",data:=.dict ⟨oR (KT P) 24⟩ 5},some {cls:=.type "dict",data:=.dict ⟨oR (KT P) 201⟩ 30},true):=by kernel_rfl
set_option tactic.hygienic true in
theorem tz(g:Gh):∀{es:List (Nat×V)} {ds:List DictEntry},all2 OT es ds=true->ds.map (·.hash)=(es.map fun e=>PyData.keyHash w.params (am e.1))->aT (ER litKind g) es ds
 | [],[],_,_=>.nil
 |e::es,d::ds,h1,h2=>by
  rw [List.map_cons,List.map_cons] at h2;injection h2 with h2 h3
  refine xA (aX h1) fun h0 h1=>?_;refine xA (aX h0) fun h4 h5=>?_;refine .cons ⟨?_,h2,Fg h5 g⟩ (tz g h1 h3);split at h4
  ·rename_i x t q;(refine J q ?_;refine aQ (Fast.sEq_iff.mp h4) ?_);refine(?_ :(PySem.strKind prog w).is (am e.1) (.str (am e.1) t)=true);simp[PySem.strKind,Value.isStrOf]
  ·exact d_ h4
 | [],_::_,h,_=>d_ h
 |_::_,[],h,_=>d_ h
theorem gl_ok(k:K.In h₀):Gl:=by
 have e:=Jz w.params;rw [<-K_eq] at e;simp only[Prod.mk.injEq] at e;refine fp e fun e1 e2 e3=>?_;refine⟨k,K_eq▸AU w.params,?_,fun n hn=>?_⟩
 ·refine xE (Option.isSome_iff_exists.mp e3) fun o e4=>?_;exact⟨o,k _ _ e4⟩
 ·have z:=aX (Hj w.params)
  match n,hn with
  |0,hn=>exact absurd rfl hn
  |1,_=>exact⟨by decide,by decide,_,_,k 24 _ e1,fun g=>tz g (by refine J K_eq ?_;exact z.1) (by refine J K_eq ?_;exact BH w.params)⟩
  |2,_=>exact⟨by decide,by decide,_,_,k 201 _ e2,fun g=>tz g (by refine J K_eq ?_;exact z.2) (by refine J K_eq ?_;exact AD w.params)⟩
  |n+3,hn=>exact absurd rfl hn
theorem k_(kp:Kept w h₀):Cx:=by
 have k:=kF kp;have G:=gl_ok k;have inj:∀{z:Str} {c:Nat},i5 z=true->cS z=c->am c=z:=fun h e=>by refine aQ e ?_;exact dT h
 refine⟨G,J1,fun z f hz h=>?_,fun z f hz h=>?_,fun z f hz h=>?_,fun z v hz h=>?_,fun c f h=>?_⟩
 ·have e:=gF (GC w.params) (je h);simp only[Prod.mk.injEq,dT hz] at e;refine J K_eq ?_;exact e
 ·have e:=gF (Ho w.params) (je h);simp only[Prod.mk.injEq,dT hz] at e;refine J K_eq ?_;exact e
 ·have e:=gF (FK w.params) (je h);simp only[Prod.mk.injEq,dT hz] at e;refine J K_eq ?_;exact e
 ·have m:=je h;have q:=DY w.params;have e:=Ge w.params;rw [<-K_eq] at e q;simp only[LF,List.map_cons,List.map_nil,List.cons.injEq] at q;simp only[Prod.mk.injEq] at e;have gd:=G.kin;have at':∀{a o},a≠dN->K.lookup a=some o->∀σ:VS,σ.g.w a=.g o:=fun n e σ=>σ.r.base _ _ (k _ _ e) n;simp only[LF,List.mem_cons,Prod.mk.injEq,List.not_mem_nil,or_false] at m;refine Or.elim m (fun ρ=>?_) fun ρ=>Or.elim ρ (fun ρ=>?_) fun ρ=>?_
  ·refine xA ρ fun m1 ρ1=>?_;refine J ρ1 ?_;refine aQ (inj hz m1) ?_;exact⟨_,q.1,fun σ=>uL (at' (by decide) e.2 σ) (.cons (.lit _ _) (.cons (.lit _ _) (.cons (uL (at' (by decide) e.1 σ) (.cons .none (.cons .none .nil))) (.cons (.bool _) .nil))))⟩
  ·refine xA ρ fun m1 ρ1=>?_;refine J ρ1 ?_;refine aQ (inj hz m1) ?_;exact⟨_,q.2.1,fun σ=>.gd 1⟩
  ·refine xA ρ fun m1 ρ1=>?_;refine J ρ1 ?_;refine aQ (inj hz m1) ?_;exact⟨_,q.2.2.1,fun σ=>.gd 2⟩
 ·obtain c5:=Np (fun Y=>rfl) (je (by refine aQ (show r_ c=aL Nat.beq (Kr c) 6872339552563453791 from E7 _ c) ?_;exact h));have e:=gF (yo w.params) c5;rw [h] at e;simp only[Option.map_some,Option.some.injEq,Prod.mk.injEq] at e;refine J K_eq ?_;exact e
theorem BC(P:Params):(nsOkIn (KT P) cStatics,nsIn (KT P) cStatics "sys.recursionlimit",nsOkIn (KT P) mainGlobals,nsIn (KT P) mainGlobals "__builtins__",(KT P).lookup 4)=(true,some none,true,some (some (.ref 4)),some {cls:=.type "module",dict:=some 0,data:=.plain}):=by kernel_rfl
set_option tactic.hygienic true in
theorem Cb{N:Addr}{mg:Str->Option Value}{n:Str}{v:Value}(kin:K.In h)(G:h.Ns N mg)(e:nsIn K N n=some (some v)):mg n=some v:=by
 refine eK G fun o es ep ho hd Y hf=>?_;delta nsIn at e;split at e
 ·rename_i c d es' n' sl q;have:=kin _ _ q;rw [ho] at this;obtain rfl:=sj this;cases hd;split at e
  ·rename_i e' he;cases e;refine aQ (hf _) ?_;delta nsFind findBy;(refine aQ (Array.find?_toList) ?_;refine J he ?_);rfl
  ·split at e<;>exact nomatch e
 ·exact nomatch e
theorem l9(k:K.In h₀):h₀.NoLimit:=by have e:=BC w.params;rw [<-K_eq] at e;simp only[Prod.mk.injEq] at e;refine fp e fun e1 e2 Y=>?_;exact⟨_,.of_isNs (isNs_of_in k e1),nsMap_none_of_in k e1 e2⟩
theorem KI(k:K.In h₀):ED:=by have e:=BC w.params;rw [<-K_eq] at e;simp only[Prod.mk.injEq] at e;refine ez e fun Y Y e3 e4 e5=>?_;exact⟨_,4,_,.of_isNs (isNs_of_in k e3),Cb k (.of_isNs (isNs_of_in k e3)) e4,by decide,by decide,k 4 _ e5,rfl,rfl,rfl⟩
def O1:Prop:=∀n A O,cF n O->kq (n+1) A->∀(σ:VS) t R k r,(O (.fn 53) [.lit 23157120498421321] σ.H fun v h=>ag (di v) fun c=>ay (Nat.beq c 32199642103180905) (k (.msg 10) h) none)=some r->Fin σ k r (fun val s'=>R (.ok (.ret val)) s')->codeAny M A (.call (.ref (ik 25)) ⟨[.str (am 23157120498421321) t],[]⟩) R σ.s
def Jn:Prop:=∀n A,kq (n+1) A->∀(σ:VS) t R,(∀τ u,Le dH σ τ->VR τ.g (.lit 32199642103180905) u->τ.H=σ.H.up->R (.ok (.ret u)) τ.s)->codeAny M A (.call (.ref (ik 53)) ⟨[.str (am 23157120498421321) t],[]⟩) R σ.s
theorem ma(e:tn f=some q):∃ns zs ds body o fd dv,DS f ns zs ds body o fd dv/\q=⟨lY (zs.length - ds.length) zs ds,NE (Nat.beq f 39) 12 ns body⟩/\om (KT w.params) (ik f)=some (o,fd,body):=by
 refine an (ah e) fun st e1 e=>xA (aW e) fun ok e=>an (ah e) fun ps e2 e=>an (ah e2) fun ds e3 e2=>xA (aW e2) fun nd e2=>?_;obtain rfl:=sj e2;refine bt e ?_;have e1':=e1;obtain e1:=(hV _ _)▸e1;refine xE (List.getElem?_eq_some_iff.mp e1) fun hf Y=>?_;have hf:f < 54:=hf;have h:=List.all_eq_true.mp (Jl w.params) f (List.mem_range.mpr hf);unfold zI at h;have t:=congrArg (fun l=>l[f]?) (Es w.params);rw [List.getElem?_map,List.getElem?_range hf,List.getElem?_map,e1] at t;simp only[Option.map_some,Option.some.injEq] at t;refine iS (om (KT w.params) (ik f)) (fun q=>?_) fun p q=>?_
 ·obtain h:=q▸h;exact d_ h
 ·rw [q] at h t;simp only[Option.map_some,Option.some.injEq,Prod.mk.injEq] at t;refine fp t fun t1 t2 t3=>?_;have hd:M6 p.2.1.params.defaults=some ds:=J t1<|e3;have hds:qE (xj st)=ds:=by delta qE;exact J e3 rfl
  have F:=BS (J K_eq<|q) (by exact J K_eq<|h) (by exact J t2<|ok) hd fun k h1 h2 g S=>by
   have m:(f,k)∈GL:=by refine List.mem_flatMap.mpr ⟨f,List.mem_range.mpr hf,?_⟩;refine J e1' ?_;rw [t1] at h1 h2;exact List.mem_map.mpr ⟨(iQ (xj st)).length - k,List.mem_range.mpr (J hds<|ai 0x72050000421880070010010c6005080044 rfl h2 (jI (ai 0x6140040185040002 rfl h1))),by exact J (show(iQ (xj st)).length - ((iQ (xj st)).length - k)=k by exact QF (ai 0x1c81400010862001c0040185080004 rfl (jw _ _) (jI (ai 0x6140040185040002 rfl (Nat.sub_le _ _)))) (ai 0x1c52000010881801c0040185080004 rfl (jw _ _) (jI (ai 0x6140040185040002 rfl h1)))) rfl⟩
   have b:=gF (xD w.params g S) m;obtain ft:Gf w.params f=p.2.1:=by delta Gf;exact J q rfl
   dsimp only at b
   (obtain b:=ft▸b;obtain b:=(show qE p.2.1.params=ds by exact J t1<|hds)▸b)
   exact J K_eq<|b
  refine⟨_,_,ds,p.2.2,p.1,p.2.1,_,F,?_,rfl⟩;refine J t1<|J t2<|J t3<|J (aw _)<|J (aw _)<|J (show(iQ (xj st)).length=(xj st).args.length by delta iQ;(exact J (dz _ _)<|J (QJ _) rfl)) ?_;rfl
theorem Ps(P:Params):(om (KT P) (ik 39)).map (fun p=>(p.2.1.code,(p.2.1.qualname++(".<locals>.":Str))++("<lambda>":Str)))=some (Value.ref 470,ny):=by kernel_rfl
theorem E0(P:Params):codeHdIn (KT P) 470 dN=true:=by kernel_rfl
theorem call_plain(kp:Kept w h₀)(cs:cF n (aS n))(hA:kq (n+1) A)(hq:tn f=some q)(e:bG (aS n) q xs σ.H k=some r)(rv:c6 σ.g xs vals)(hR:Fin σ k r fun val s'=>R (.ok (.ret val)) s'):codeAny M A (.call (.ref (ik f)) ⟨vals,[]⟩) R σ.s:=by
 refine da (ma hq) fun ns zs ds body o fd dv F ρ q=>?_;subst ρ;have K:=kF kp;refine fE (Nat.beq f 39) (fun h=>?_) fun h=>?_
 ·obtain e:=h▸e;obtain rfl:=QT h;have z:=Ps w.params;obtain z:=q▸z;simp only[Option.map_some,Option.some.injEq,Prod.mk.injEq] at z;obtain hE:∀env,env.scope.names=ns->env.code=fd.code->env.qual=fd.qualname++".<locals>."->JJ ns env:=fun env h1 h2 h3=>⟨h1,F.noFree,⟨470,h2.trans z.1,codeHd_of_K K (J K_eq<|E0 _)⟩,by refine J h3 ?_;exact z.2⟩
  exact A9 (k_ kp) (l9 K) F hE (uR (k_ kp) cs (fun Y h=>h.hn) (fun Y=>FM (k_ kp) (KI K) fun Y h=>h) 12 body) hA e rv hR
 ·obtain e:=h▸e;exact A9 (k_ kp) (l9 K) F (fun env h Y Y=>h) (uR (k_ kp) cs (fun Y h=>h) (fun z=>d_ z) 12 body) hA e rv hR
theorem jd{x y r:α}(e:@Bool.rec (fun Y=>α) x y b=r):(b=true/\y=r)\/b=false/\x=r:=by cases b with|false=>exact .inr ⟨rfl,e⟩|true=>exact .inl ⟨rfl,e⟩
theorem Fin.up{Q:Value->Shared->Prop}(h:Fin σ k r Q)(l:Le dH σ τ):Fin τ k r Q:=h.from l
theorem rm(kp:Kept w h₀)(af:O1)(fo:Jn):∀n,cF n (aS n)
 |0=>fun A hA σ fn fv xs vals k r e=>nn e
 |n+1=>by
  have cs:=rm kp af fo n;obtain K:=kF kp;intro A hA σ fn fv xs vals k r e fnv rv R hR
  cases fnv with
  |clo l env u ru=>exact IS (k_ kp) (l9 K) cs hA e ru rv hR
  |fn f=>
   refine an (aZ (show ag (tn f) (fun q=>zr (bG (aS n) q xs σ.H k) (gq false 2 xs σ.H fun h=>gG 1024 h fun h=>bG (aS n) q xs h k) (gq true 3 xs σ.H fun h=>gG 1024 h fun h=>bG (aS n) q xs h k) (gG 4096 σ.H fun h=>bG (aS n) q xs h k) (yU xs σ.H fun xs h=>bG (aS n) q xs h k) (@Bool.rec (fun Y=>KX) (GM (aS n) xs σ.H k) (yW xs σ.H k) (Nat.beq f 53)) (I9 f))=some r from e)) fun q hq e=>?_;have out:∀{τ:VS},Le dH σ τ->τ.s=σ.s->bG (aS n) q xs τ.H k=some r->codeAny M A (.call (.ref (ik f)) ⟨vals,[]⟩) R σ.s:=fun l hs e=>by exact aQ hs<|call_plain kp cs hA hq e (l.vrs rv) (hR.from l)
   generalize ho:I9 f=o at e
   match o,e with
   |0,e=>exact out (.refl _) rfl e
   |1,e=>exact bA (vZ (show gq false 2 xs σ.H (fun h=>gG 1024 h fun h=>bG (aS n) q xs h k)=some r from e)) fun τ l hs Y e=>bA (uA e) fun υ l2 hs2 Y e=>out (l.trans l2) (hs2.trans hs) e
   |2,e=>exact bA (vZ (show gq true 3 xs σ.H (fun h=>gG 1024 h fun h=>bG (aS n) q xs h k)=some r from e)) fun τ l hs Y e=>bA (uA e) fun υ l2 hs2 Y e=>out (l.trans l2) (hs2.trans hs) e
   |3,e=>exact bA (uA (show gG 4096 σ.H (fun h=>bG (aS n) q xs h k)=some r from e)) fun υ l2 hs2 Y e=>out l2 hs2 e
   |4,e=>exact br (Fs (show yU xs σ.H (fun xs h=>bG (aS n) q xs h k)=some r from e) rv) fun τ ys l hs rys e=>aQ hs<|call_plain kp cs hA hq e rys (hR.from l)
   |j+5,e=>
    have f25:f=25\/f=53:=by
     delta I9 at ho;refine Or.elim (jd ho) (fun ρ=>?_) fun ρ=>?_
     ·exact xA ρ fun Y z=>nomatch z
     ·refine xA ρ fun Y ho=>Or.elim (jd ho) (fun ρ=>?_) fun ρ=>?_
      ·exact xA ρ fun Y z=>nomatch z
      ·refine xA ρ fun Y ho=>Or.elim (jd ho) (fun ρ=>?_) fun ρ=>?_
       ·exact xA ρ fun Y z=>nomatch z
       ·refine xA ρ fun Y ho=>Or.elim (jd ho) (fun ρ=>?_) fun ρ=>?_
        ·exact xA ρ fun Y z=>nomatch z
        ·refine xA ρ fun Y ho=>Or.elim (jd ho) (fun ρ=>?_) fun ρ=>?_
         ·exact xA ρ fun z Y=>.inl (QT z)
         ·refine xA ρ fun Y ho=>Or.elim (jd ho) (fun ρ=>?_) fun ρ=>?_
          ·exact xA ρ fun z Y=>.inr (QT z)
          ·exact xA ρ fun Y ho=>nomatch ho
    have one:∀{F:V->KX},(@List.casesOn V (fun Y=>KX) xs none fun x q=>@List.casesOn V (fun Y=>KX) q (ag (di x) fun n=>ay (Nat.beq n 23157120498421321) (F x) none) fun Y Y=>none)=some r->∃t,xs= [.lit 23157120498421321]/\vals= [.str (am 23157120498421321) t]/\F (.lit 23157120498421321)=some r:=fun e=>by
     match xs,e with
     | [x],e=>
      refine an (aZ e) fun m e1 e=>xA (eA e) fun e2 e=>?_;obtain rfl:=QT e2
      cases rv with
      |cons r1 r2=>
      cases r2;cases iy e1;exact xE (dh r1) fun t ρ=>J ρ<|⟨t,rfl,rfl,e⟩
    refine Or.elim f25 (fun ρ=>?_) fun ρ=>?_
    ·subst ρ;exact bP (one e) fun t ρ1 ρ2 e=>aQ ρ1<|J ρ2<|af n A _ cs hA σ t R k r e hR
    ·subst ρ;exact bP (one e) fun t ρ1 ρ2 e=>aQ ρ1<|J ρ2<|fo n A hA σ t R fun τ u l ru eh=>hR τ _ u l ru (J eh<|e)
end
section
set_option maxRecDepth 100000
open PySem
structure RS where
 lo:Nat->Option aB
 n:Nat
 u:List Nat
 rg:List (Int×V)
 e1:Nat
 rw:List (Int×V)
 e2:Nat
 kd:List (Int×V)
 e3:Nat
 at':List (Int×V)
 e4:Nat
 ch:V
 e5:Nat
 k1:List V
 n1:Nat
 t2:Tr
 t3:Tr
noncomputable def lf(a:Nat)(o:aB):Tr:=.nd [(a,o)] .nl .nl
noncomputable def RS.t(s:RS):Tr:=.nd [(4096,.dI s.rg s.e1)] (.nd [(4098,.dI s.kd s.e3)] s.t2 (lf 4100 (.dL [(1936156018,.ref 4096),(1937207154,.ref 4097),(1937335659,.ref 4098),(29793,.ref 4099),(32481117229639779,s.ch)] s.e5))) (.nd [(4097,.dI s.rw s.e2)] (lf 4101 (.list s.k1 s.n1)) (.nd [(4099,.dI s.at' s.e4)] .nl s.t3))
noncomputable def RS.h(s:RS):Hp:=⟨s.lo,4096,s.t,s.n,s.u⟩
def RS.wr(s:RS)(r:Int)(v:V):RS:={s with rg:=aP iE r v s.rg,e1:=qs (aL iE s.rg r) s.e1}
def RS.wa(s:RS)(r:Int)(v:V):RS:={s with at':=aP iE r v s.at',e4:=qs (aL iE s.at' r) s.e4}
def RS.ww(s:RS)(r:Int)(v:V):RS:={s with rw:=aP iE r v s.rw,e2:=qs (aL iE s.rw r) s.e2}
def wN(o:Option V):V:=@Option.rec V (fun Y=>V) .none (fun v=>v) o
def RS.reg(s:RS)(r:Nat):V:=wN (aL iE s.rg (Int.ofNat r))
def aa(O:CK):CK:=fun fn xs h k=>@Fn.rec (fun Y=>KX) (fun f=>Mh O f xs h k) (fun l env=>runC O l env xs h k) fn
noncomputable def dZ(s:S):S:=@S.casesOn (fun Y=>S) s .skip (fun a Y=>a) (fun Y=>.skip) (fun Y Y=>.skip) (fun Y Y=>.skip) (fun Y Y=>.skip) (fun Y Y Y Y=>.skip) (fun Y Y Y=>.skip) (fun Y Y Y=>.skip) (fun Y Y Y=>.skip) (fun Y=>.skip) .skip .skip
noncomputable def dm(s:S):S:=@S.casesOn (fun Y=>S) s .skip (fun Y b=>b) (fun Y=>.skip) (fun Y Y=>.skip) (fun Y Y=>.skip) (fun Y Y=>.skip) (fun Y Y Y Y=>.skip) (fun Y Y Y=>.skip) (fun Y Y Y=>.skip) (fun Y Y Y=>.skip) (fun Y=>.skip) .skip .skip
noncomputable def ja(s:S):S:=@S.casesOn (fun Y=>S) s .skip (fun Y Y=>.skip) (fun Y=>.skip) (fun Y Y=>.skip) (fun Y Y=>.skip) (fun Y Y=>.skip) (fun Y Y Y Y=>.skip) (fun Y a Y=>a) (fun Y Y b=>b) (fun Y Y b=>b) (fun Y=>.skip) .skip .skip
noncomputable def xQ(s:S):S:=@S.casesOn (fun Y=>S) s .skip (fun Y Y=>.skip) (fun Y=>.skip) (fun Y Y=>.skip) (fun Y Y=>.skip) (fun Y Y=>.skip) (fun Y Y Y Y=>.skip) (fun Y Y b=>b) (fun Y Y Y=>.skip) (fun Y Y Y=>.skip) (fun Y=>.skip) .skip .skip
def lE (f:Nat):S:=@Option.rec FR (fun Y=>S) .bad (fun r=>r.b) (tn f)
def wO:S:=ja (dZ (dm (dm (lE 47))))
def tS:S:=dm (dm wO)
noncomputable def kL:List V:= [.lit 30518548567977806,.lit 135916593373344577190981443,.lit 549628336235472056708942,.lit 119213080343369,.lit 1869901639,.lit 2147769306903875908941,.lit 1852274072666945971539,.lit 2129766734972602052430]
noncomputable def kH:List V:= [.lit 2148065434160795771977,.lit 128034677157449,.lit 111550592214340,.lit 1871508380507908367433,.lit 32481117229639747]
def MR(m:Loc)(os jv wv:List V)(op:V)(s:Int):Loc:=ae (ae (ae (ae (ae (ae m 435744240755 (.ref 4100)) 7565423 (.fl os)) 495807460714 (.fl jv)) 126879581958775 (.fl wv)) 28783 op) 1953460339 (.int s)
section
variable(O:CK)(s:RS)(m:Loc)(os:List V)(sp:Int)(kn kb:KL)(kr:KV)
abbrev T1(O:CK)(op:List V)(s:RS)(m:Loc)(os:List V)(sp:Int)(kn kb:KL)(kr:KV):KX:=aF (aa O) tS (MR m os kL kH (.fl op) sp) s.h kn kb kr
abbrev T2(O:CK):=T1 (aa O)
abbrev Nx(m:Loc)(os:List V)(op:List V)(sp:Int)(kn:KL):Hp->KX:=kn (MR m os kL kH (.fl op) sp)
abbrev Jp(m:Loc)(os:List V)(op:List V)(sp:Int)(t:Nat)(kn:KL):Hp->KX:=kn (ae (MR m os kL kH (.fl op) sp) 1953460339 (vi t))
def Bi(h:Hp)(r:Nat)(v:V)(k:Hp->KX):KX:=ag (eP h (.ref 4096) (vi r) v) k
theorem Hz(a b:Nat):T1 O (b_ (.copy a b)) s m os sp kn kb kr=Bi s.h b (s.reg a) (Nx m os (b_ (.copy a b)) sp kn):=by kernel_rfl
theorem DK(r:Nat)(v:V):T1 O (b_ (.value r v)) s m os sp kn kb kr=Bi s.h r v (Nx m os (b_ (.value r v)) sp kn):=by kernel_rfl
theorem Ac(p r:Nat):T1 O (b_ (.column p r)) s m os sp kn kb kr=ag (aR s.h (.ref 4099) (vi 0)) fun x=>ag (aR s.h (.ref 4097) x) fun w=>ag (aR s.h w (vi p)) fun v=>Bi s.h r v (Nx m os (b_ (.column p r)) sp kn):=by kernel_rfl
theorem Dl(r:Nat):T1 O (b_ (.rowid r)) s m os sp kn kb kr=ag (aR s.h (.ref 4099) (vi 0)) fun x=>Bi s.h r x (Nx m os (b_ (.rowid r)) sp kn):=by kernel_rfl
theorem uq(c r:Nat):T1 O (b_ (.idxRowid c r)) s m os sp kn kb kr=ag (aR s.h (.ref 4099) (vi c)) fun x=>ag (aR s.h x (.int (-1))) fun v=>Bi s.h r v (Nx m os (b_ (.idxRowid c r)) sp kn):=by kernel_rfl
theorem uf(r:Nat):T1 O (b_ (.newRowid r)) s m os sp kn kb kr=bg (Nat.ble (aq s.rw) 60000) (ag (cm s.h (.fl [vi 0]) (.fl (dq (fun e=>.int e.1) s.rw))) fun l=>eV 2 l s.h fun x h=>ag (cm h x (vi 1)) fun v=>Bi h r v (Nx m os (b_ (.newRowid r)) sp kn)):=by kernel_rfl
theorem xy(f n r:Nat):T1 O (b_ (.makeRec f n r)) s m os sp kn kb kr=O (.fn 42) [.ref 4100,vi f,vi n] s.h fun v h=>Bi h r v (Nx m os (b_ (.makeRec f n r)) sp kn):=by kernel_rfl
theorem LD(a b:Nat)(x:V):T1 O [.lit 8751735898823353921,vi a,vi b,vi 0,x] s m os sp kn kb kr=Nx m os [.lit 8751735898823353921,vi a,vi b,vi 0,x] sp kn s.h:=by kernel_rfl
theorem yI(r:Nat):T1 O (b_ (.addInt r)) s m os sp kn kb kr=ag (aR s.h (.ref 4096) (vi r)) fun x=>ag (cm s.h x (vi 1)) fun v=>Bi s.h r v (Nx m os (b_ (.addInt r)) sp kn):=by kernel_rfl
theorem x7(r t:Nat):T1 O (b_ (.notNull r t)) s m os sp kn kb kr=ag (ba s.h .IsNot (s.reg r) .none) fun b=>ay b (Jp m os (b_ (.notNull r t)) sp t kn s.h) (Nx m os (b_ (.notNull r t)) sp kn s.h):=by kernel_rfl
theorem y7(r t:Nat):T1 O (b_ (.isNull r t)) s m os sp kn kb kr=ag (ba s.h .Is (s.reg r) .none) fun b=>ay b (Jp m os (b_ (.isNull r t)) sp t kn s.h) (Nx m os (b_ (.isNull r t)) sp kn s.h):=by kernel_rfl
theorem G9(t:Nat):T1 O (b_ (.goto t)) s m os sp kn kb kr=Jp m os (b_ (.goto t)) sp t kn s.h:=by kernel_rfl
theorem sO(r:Nat):T1 O (b_ (.mustBeInt r)) s m os sp kn kb kr=Nx m os (b_ (.mustBeInt r)) sp kn s.h:=by kernel_rfl
def MK(h:Hp)(x y:V)(a b:KX):KX:=ag (ba h .Is x .none) fun c=>ay (xor c true) (ag (ba h .Is y .none) fun d=>ay d a b) (ay c a b)
theorem Dw(r t z:Nat):T2 O (b_ (.cmpGe r t z)) s m os sp kn kb kr=MK s.h (s.reg r) (s.reg z) (Jp m os (b_ (.cmpGe r t z)) sp t kn s.h) (ag (ba s.h .GtE (s.reg r) (s.reg z)) fun b=>ay b (Jp m os (b_ (.cmpGe r t z)) sp t kn s.h) (Nx m os (b_ (.cmpGe r t z)) sp kn s.h)):=by kernel_rfl
theorem DW(r t z:Nat):T2 O (b_ (.cmpEq r t z)) s m os sp kn kb kr=MK s.h (s.reg r) (s.reg z) (Nx m os (b_ (.cmpEq r t z)) sp kn s.h) (ag (ba s.h .Eq (s.reg r) (s.reg z)) fun b=>ay b (Jp m os (b_ (.cmpEq r t z)) sp t kn s.h) (Nx m os (b_ (.cmpEq r t z)) sp kn s.h)):=by kernel_rfl
def K6(h:Hp)(x:V)(a b:Hp->KX):KX:=ag (eP h (.ref 4099) (vi 0) x) fun h=>ag (aR h (.ref 4100) (.lit 29793)) fun d=>ag (aR h d (vi 0)) fun x=>ag (aR h (.ref 4100) (.lit 1937207154)) fun w=>ag (ba h .NotIn x w) fun b'=>ay b' (a h) (b h)
theorem HJ(t r:Nat):T1 O (b_ (.seek t r)) s m os sp kn kb kr=K6 s.h (s.reg r) (Jp m os (b_ (.seek t r)) sp t kn) (Nx m os (b_ (.seek t r)) sp kn):=by kernel_rfl
theorem rj(t r:Nat):T1 O (b_ (.notExists t r)) s m os sp kn kb kr=K6 s.h (s.reg r) (Jp m os (b_ (.notExists t r)) sp t kn) (Nx m os (b_ (.notExists t r)) sp kn):=by kernel_rfl
theorem zT(r k:Nat)(l:Bool):T1 O (b_ (.insert r k l)) s m os sp kn kb kr=ag (aR s.h (.ref 4096) (vi r)) fun v=>ag (aR s.h (.ref 4096) (vi k)) fun i=>ag (eP s.h (.ref 4097) i v) (Nx m os (b_ (.insert r k l)) sp kn):=by kernel_rfl
theorem yV:T1 O (b_ .delete) s m os sp kn kb kr=ag (aR s.h (.ref 4099) (vi 0)) fun x=>IM 3 (.ref 4097) x .none s.h fun v h=>ag (ba h .IsNot v .none) fun b=>ay (not b) (kr .none h) (Nx m os (b_ .delete) sp kn h):=by kernel_rfl
theorem xP(r:Nat):T1 O (b_ (.changes r)) s m os sp kn kb kr=ag (aR s.h (.ref 4096) (vi r)) fun x=>ag (cm s.h s.ch x) fun v=>ag (eP s.h (.ref 4100) (.lit 32481117229639779) v) (Nx m os (b_ (.changes r)) sp kn):=by kernel_rfl
theorem IX:T1 O (b_ .halt) s m os sp kn kb kr=kr (.fl [.none,.none]) s.h:=by kernel_rfl
theorem Fq(a:Nat)(k:V)(r:List V):T1 O [.lit 1818845510,vi a,vi 0,vi 0,.tup (k::r)] s m os sp kn kb kr=ag (aR s.h (.tup (k::r)) (vi 0)) fun v=>kr (.fl [vi a,v]) s.h:=by kernel_rfl
end
noncomputable def RS.cc(s:RS)(i:Nat)(q:List (Int×V))(l:List V)(n:Nat):RS:=@Nat.casesOn (fun Y=>RS) i {s with kd:=(1,.ref 4101)::q,k1:=l,n1:=n} fun i=>@Nat.casesOn (fun Y=>RS) i {s with kd:=(1,.ref 4101)::(2,.ref 4102)::q,t2:=lf 4102 (.list l n)} fun Y=>{s with kd:=(1,.ref 4101)::(2,.ref 4102)::(3,.ref 4103)::q,t3:=lf 4103 (.list l n)}
section
variable(O:CK)(s:RS)(m:Loc)(os:List V)(sp:Int)(kn kb:KL)(kr:KV)(q:List (Int×V))(l:List V)(c:Nat)
theorem th(r:Nat):∀i,i < 3->T1 O (b_ (.idxInsert (i+1) r)) (s.cc i q l c) m os sp kn kb kr=ag (aR s.h (.ref 4096) (vi r)) fun v=>bg (Nat.blt c 60000) (Nx m os (b_ (.idxInsert (i+1) r)) sp kn (s.cc i q (v::l) (c+1)).h)
 |0,_=>by kernel_rfl
 |1,_=>by kernel_rfl
 |2,_=>by kernel_rfl
 |n+3,h=>absurd h (lin 0xc30c3140000101 rfl _)
def sg:S:=ja (dZ (dm (dm (dm (dm (lE 44))))))
def n7(m:Loc)(os op:List V)(sp:Int)(t:Nat)(kn:KL):KV:=fun v h=>ag (gU h v) fun b=>ay b (Jp m os op sp t kn h) (Nx m os op sp kn h)
def Pf(op:List V)(p4 v:V):Loc:=ae (ae (ae (ae (ae (ae (ae (ae (fun Y=>none) 435744240755 (.ref 4100)) 28783 (.fl op)) 1701667182 (wN (lN op 0))) 12656 (wN (lN op 1))) 12912 (wN (lN op 2))) 13168 (wN (lN op 3))) 13424 p4) 435761734006 v
theorem wE(cu t f n:Nat):T1 O (b_ (.noConfl cu t f n)) s m os sp kn kb kr=O (.fn 42) [.ref 4100,vi f,vi n] s.h fun w h=>aF O (dm sg) (ae (Pf (b_ (.noConfl cu t f n)) (vi n) (s.reg cu)) 110386907865463 w) h
  (fun m' h=>aF O (dm (dm (dm (dm (dm (lE 44)))))) m' h (fun Y h=>n7 m os (b_ (.noConfl cu t f n)) sp t kn .none h) (fun Y Y=>none) (n7 m os (b_ (.noConfl cu t f n)) sp t kn)) (fun Y Y=>none) (n7 m os (b_ (.noConfl cu t f n)) sp t kn):=by kernel_rfl
end
inductive Ep(h:Hp):It->List V->Prop
 |nil {t:It} (e:∀(e:KX) k,eQ t h e k=e):Ep h t []
 |cons {t t':It} {x:V} {xs:List V} (e:∀(e:KX) k,eQ t h e k=k x t') (r:Ep h t' xs):Ep h t (x::xs)
theorem pi:∀xs,Ep h (.l xs) xs
 | []=>.nil fun Y Y=>rfl
 |x::xs=>.cons (fun Y Y=>rfl) (pi xs)
noncomputable def Cz:Nat->Int->List V
 |0,_=> []
 |n+1,i=>.int i::Cz n (i+1)
theorem EW:∀(n:Nat) (i:Int),Ep h (.r i (i+n)) (Cz n i)
 |0,i=>.nil fun e k=>by refine(?_ :@Bool.rec (fun Y=>KX) e _ (decide (i < i+(0:Nat)))=e);exact J (QP (by lia)) rfl
 |n+1,i=>.cons (fun e k=>by
  refine(?_ :@Bool.rec (fun Y=>KX) e (k (.int i) (.r (i+1) (i+((n+1:Nat):Int)))) (decide (i < i+((n+1:Nat):Int)))=_)
  (exact J (QO (by lia))<|J (show i+((n+1:Nat):Int)=i+1+n by lia) rfl)) (EW n (i+1))
theorem jN:∀(n f:Nat),Cz n f=(List.range n).map fun i=>vi (f+i)
 |0,f=>rfl
 |n+1,f=>by refine J List.range_succ_eq_map<|J QV<|J QZ ?_;refine(?_ :V.int f::Cz n ((f:Int)+1)=_);refine J (show(f:Int)+1=((f+1:Nat):Int) by lia)<|J (jN n (f+1)) ?_;congr 1;exact List.map_congr_left fun i Y=>by refine(?_ :vi (f+1+i)=vi (f+(i+1)));(exact J (Nat.add_right_comm _ _ _)<|J (Q4 _ _ _) rfl)
theorem Er(e:h.obj i=some (.dI es ep)):∀(l:List (Int×V)) (j:Nat),es.drop j=l->Ep h (.d (.ref i) j es.length ep) (l.map fun e=>.int e.1)
 | [],j,q=>.nil fun a k=>by refine(?_ :@Option.rec aB (fun Y=>KX) none _ (h.obj i)=a);refine J e<|(?_ :bg (and (Nat.beq ep ep) (Nat.beq (aq es) es.length)) (@Option.rec (Int×V) (fun Y=>KX) a _ (lN es j))=a);(refine J (Nat.beq_refl _)<|J (aw _)<|J (Nat.beq_refl _)<|J (hV _ _)<|J (List.getElem?_eq_none (List.drop_eq_nil_iff.mp q)) ?_);rfl
 |(x,v)::l,j,q=>.cons (fun a k=>by
  refine(?_ :@Option.rec aB (fun Y=>KX) none _ (h.obj i)=_);refine J e<|(?_ :bg (and (Nat.beq ep ep) (Nat.beq (aq es) es.length)) (@Option.rec (Int×V) (fun Y=>KX) a (fun p=>@Prod.casesOn Int V (fun Y=>KX) p fun x Y=>k (.int x) (.d (.ref i) (Nat.succ j) es.length ep)) (lN es j))=_);obtain this:es[j]? =some (x,v):=by have:=congrArg (·[0]?) q;simpa using this
  (refine J (Nat.beq_refl _)<|J (aw _)<|J (Nat.beq_refl _)<|J (hV _ _)<|J this ?_);rfl) (Er e l (j+1) (by(refine aQ List.drop_drop<|J q ?_);rfl))
section
variable{O:CK}
def OJ(h:Hp)(cd el:SE)(tu:Bool)(ts:List Nat)(P:Loc->Prop)(p:V->Bool)(f:V->V)(x:V):Prop:=∀m,P m->∃m',wH tu ts h x m=some m'/\P m'/\(∀k,cd m' h k=k (.bool (p x)) h)/\(p x=true->∀k,el m' h k=k (f x) h)
theorem FQ:d8 tu ts cd el 0 t m h bx c k=eQ t h (k bx c h) fun Y Y=>none:=rfl
theorem BF:d8 tu ts cd el (n+1) t m h bx c k=eQ t h (k bx c h) fun v t=>ag (wH tu ts h v m) fun m=>cd m h fun b h=>ag (vBool b) fun b=>ay b (el m h fun x h=>ay (Nat.blt c 60000) (d8 tu ts cd el n t m h (x::bx) (Nat.succ c) k) none) (d8 tu ts cd el n t m h bx c k):=rfl
theorem lO:∀(xs:List V) (n:Nat) (t:It) (m:Loc) (bx:List V) (c:Nat),Ep h t xs->xs.length<=n->c+xs.length<=60000->(∀x∈xs,OJ h cd el tu ts P p f x)->P m->d8 tu ts cd el n t m h bx c k=k (((xs.filter p).map f).reverse++bx) (c+(xs.filter p).length) h
 | [],0,t,m,bx,c,.nil e,_,_,_,_=>FQ.trans (e _ _)
 | [],n+1,t,m,bx,c,.nil e,_,_,_,_=>BF.trans (e _ _)
 |x::xs,n+1,t,m,bx,c,.cons e r,h1,h2,h3,hm=>by
  refine bA (h3 x (.head _) m hm) fun m' e1 hm' e2 e3=>?_;rw [List.length_cons] at h1 h2;refine BF.trans ((e _ _).trans ?_);refine J e1<|(e2 _).trans<|(?_ :ay (p x) _ _=_);refine J List.filter_cons<|fE (p x) (fun q=>?_) fun q=>?_
  ·refine J (QM rfl)<|(e3 q _).trans<|(?_ :ay (Nat.blt c 60000) (d8 tu ts cd el n _ m' h (f x::bx) (c+1) k) none=_);refine J (show Nat.blt c 60000=true from QH (ai 0xea601010c60050000400003a9804142040002 rfl h2))<|(lO xs n _ m' (f x::bx) (c+1) r (ai 0x10c60010c5000040185040002 rfl h1) (ai 0xea601010c60050000400003a98041810c5000040002 rfl h2) (fun y hy=>h3 y (.tail _ hy)) hm').trans ?_;(refine J QV<|J List.reverse_cons<|J (Q5 _ _ _)<|J QK<|J (Nat.add_right_comm _ _ _) ?_);rfl
  ·exact J (QN Bool.false_ne_true)<|lO xs n _ m' bx c r (ai 0x10c60010c5000040185040002 rfl h1) (ai 0x3a980404318014000100000ea60106140040002 rfl h2) (fun y hy=>h3 y (.tail _ hy)) hm'
theorem gQ(e1:∀k,it m₀ h k=k a h)(e2:fL m₀ fr=some l)(e3:∀K:Nat->It->Hp->KX,bR h a K=K n t h₁)(e4:be h a h₁=h)(r:Ep h₁ t xs)(hn:xs.length<=n)(hl:xs.length<=60000)(hm:P (dJ l))(tr:∀x∈xs,OJ h₁ cd el tu ts P p f x):
  kY mu fr tu ts it cd el m₀ h k=ay mu (dt h (.list ((xs.filter p).map f).reverse (xs.filter p).length) k) (k (.fl ((xs.filter p).map f)) h):=by
 refine(e1 _).trans<|J e2<|(e3 fun n t h₁=>d8 tu ts cd el n t (dJ l) h₁ [] 0 fun rs c h'=>ay mu (dt (be h a h') (.list rs c) k) (k (.fl (bC rs)) (be h a h'))).trans ((lO xs n t _ [] 0 r hn (ai 0x3a98041400400003a98041400c0040001 rfl hl) tr hm).trans ?_);exact J e4<|J (List.append_nil _)<|J (Nat.zero_add _)<|J (bq _)<|J (List.reverse_reverse _) rfl
theorem jh:bS O (.comp mu fr tu ts it c e) m h k=kY mu fr tu ts (bS O it) (bS O c) (bS O e) m h k:=rfl
def pP(m₀:Loc)(c:Nat)(m:Loc):Prop:=∀v,ae m c v=ae m₀ c v
theorem kx:pP m₀ c m₀:=fun Y=>rfl
theorem yL:ae (ae m c u) c v=ae m c v:=funext fun j=>by
 delta ae;cases Nat.beq j c<;>rfl
theorem Hc:pP m₀ c (ae m₀ c u):=fun Y=>yL
theorem w9(e2:∀k,cd (ae m₀ c x) h k=k (.bool (p x)) h)(e3:p x=true->∀k,el (ae m₀ c x) h k=k (f x) h):OJ h cd el false [c] (pP m₀ c) p f x:=fun m hm=>⟨ae m c x,rfl,J (hm _)<|Hc,J (hm _)<|e2,J (hm _)<|e3⟩
end
section
variable{O:CK}{s:RS}
noncomputable def Pj:X:=.m (.b .sub (.var 435744240755) (.val (.lit 1936156018))) 7628135 (some 2) (.cons (.var 29793) .nil)
theorem P5(a b:V)(h:Hp):aa O (.fn 42) [a,b,vi n] h k=bS O (.comp false [435744240755] false [29793] (.c (.blt 1) (.cons (.var 500153084262) (.cons (.b (.bin .Add) (.var 500153084262) (.var 2037277037)) .nil))) (.val (.bool true)) Pj) (ae (ae (ae (fun Y=>none) 435744240755 a) 500153084262 b) 2037277037 (vi n)) h fun v h=>gT 6 [v] h k:=by kernel_rfl
theorem N2(j:Int)(k:KV):bS O Pj (ae (dJ [(435744240755,.ref 4100)]) 29793 (.int j)) s.h k=k (wN (aL iE s.rg j)) s.h:=by kernel_rfl
def RS.vals(s:RS)(f n:Nat):List V:=(List.range n).map fun i=>s.reg (f+i)
theorem tA(hf:f<=1000000)(hn:n<=1000):aa O (.fn 42) [.ref 4100,vi f,vi n] s.h k=k (.tup (s.vals f n)) s.h:=by
 have r0:jx (f:Int) ((f:Int)+(n:Int))=true:=QO (by lia);refine(P5 _ _ _).trans (jh.trans ((gQ (p:=fun Y=>true) (f:=fun v=>wN (@Option.rec Int (fun Y=>Option V) none (fun i=>aL iE s.rg i) (vInt v))) (P:=pP (dJ [(435744240755,.ref 4100)]) 29793) (a:=.rng f (f+n)) (n:=n) (fun k=>?_) rfl (fun K=>?_) rfl (EW n f) ?_ ?_ kx fun x hx=>?_).trans ?_))
 ·refine(?_ :bg (jx (f:Int) ((f:Int)+(n:Int))) (k (.rng f (f+n)) s.h)=_);refine J r0 ?_;rfl
 ·refine(?_ :bg (jx (f:Int) ((f:Int)+(n:Int))) (K (Int.toNat (Int.sub ((f:Int)+(n:Int)) f)) (.r f (f+n)) s.h)=_);(refine J r0<|J (show Int.toNat (Int.sub ((f:Int)+(n:Int)) f)=n by refine(?_ :Int.toNat ((f:Int)+(n:Int) - f)=n);lia) ?_);rfl
 ·(refine J (jN _ _)<|J (QJ _)<|J List.length_range ?_);exact QR _
 ·(refine J (jN _ _)<|J (QJ _)<|J List.length_range ?_);exact ai 0x3e810500100000ea60105040001 rfl hn
 ·rw [jN] at hx;exact mW (List.mem_map.mp hx) fun i Y=>w9 (fun k=>rfl) fun Y k=>N2 _ k
 ·refine(?_ :gT 6 [.fl _] s.h k=_);refine J (List.filter_eq_self.mpr fun Y Y=>rfl)<|J (jN _ _)<|J QZ ?_;refine(?_ :bg (Nat.ble (aq ((List.range n).map _)) 60000) (k (.tup _) s.h)=_);refine J (aw _)<|J (QJ _)<|J List.length_range<|J (QH (ai 0x3e810500100000ea60105040001 rfl hn)) ?_;rfl
end
section
variable(O:CK)(s:RS)(m:Loc)(os:List V)(sp:Int)(kn kb:KL)(kr:KV)(q:List (Int×V))(l:List V)(c:Nat)(h:Hp)(w:V)(k:KV)
noncomputable def K2:X:=.b (.cmp .Eq) (.b .sto (.var 7955819) (.var 13424)) (.var 110386907865463)
noncomputable def Lo:X:=.b .sub (.b .sub (.var 435744240755) (.val (.lit 1937335659))) (.var 12656)
theorem G':aF O (dm sg) m h kn kb kr=bS O (.comp false [13424,110386907865463] false [7955819] Lo K2 (.var 7955819)) m h fun v h=>aF O (dm (dm sg)) (ae m 7628141 v) h kn kb kr:=by kernel_rfl
theorem KR(x:V)(n:Nat):bS O K2 (ae (dJ [(13424,vi n),(110386907865463,w)]) 7955819 x) h k=ag (x6 x (vi n)) fun y=>ag (ba h .Eq y w) fun b=>k (.bool b) h:=by kernel_rfl
def IB(i t f n:Nat)(v w:V):Loc:=ae (Pf (b_ (.noConfl (i+1) t f n)) (vi n) v) 110386907865463 w
theorem Mi(t f n:Nat)(v:V):∀i,i < 3->bS O Lo (IB i t f n v w) (s.cc i q l c).h k=k (.ref (4101+i)) (s.cc i q l c).h
 |0,_=>by kernel_rfl
 |1,_=>by kernel_rfl
 |2,_=>by kernel_rfl
 |n+3,h=>absurd h (lin 0xc30c3140000101 rfl _)
theorem JU(K:Nat->It->Hp->KX):∀i,i < 3->bR (s.cc i q l c).h (.ref (4101+i)) K=K c (.l (bC l)) ((s.cc i q l c).h.set (4101+i) .gone)
 |0,_=>by kernel_rfl
 |1,_=>by kernel_rfl
 |2,_=>by kernel_rfl
 |n+3,h=>absurd h (lin 0xc30c3140000101 rfl _)
theorem Jy:∀i,i < 3->be (s.cc i q l c).h (.ref (4101+i)) ((s.cc i q l c).h.set (4101+i) .gone)=(s.cc i q l c).h
 |0,_=>by kernel_rfl
 |1,_=>by kernel_rfl
 |2,_=>by kernel_rfl
 |n+3,h=>absurd h (lin 0xc30c3140000101 rfl _)
theorem Kd(i t f n:Nat)(v:V):aF O (dm (dm sg)) (ae (IB i t f n v w) 7628141 (.fl [])) h kn kb kr=ag (isIn h .none w) fun b=>ay (xor b true) (kr (.bool true) h) (ay b (kr (.bool true) h) (aF O (dm (dm (dm sg))) (ae (IB i t f n v w) 7628141 (.fl [])) h kn kb kr)):=by kernel_rfl
theorem zy(i t f n:Nat)(v x:V)(r:List V):aF O (dm (dm sg)) (ae (IB i t f n v w) 7628141 (.fl (x::r))) s.h kn kb kr=ag (isIn s.h .none w) fun b=>ay (xor b true) (ag (aR s.h (.fl (x::r)) (vi 0)) fun v=>ag (eP s.h (.ref 4099) (vi (i+1)) v) fun h=>kr (.bool false) h) (ay b (kr (.bool true) s.h) (ag (aR s.h (.fl (x::r)) (vi 0)) fun v=>ag (eP s.h (.ref 4099) (vi (i+1)) v) fun h=>kr (.bool false) h)):=by kernel_rfl
def O5:S:=ja (dZ (xQ (dZ (xQ (dZ (xQ (dZ (dm (lE 46)))))))))
def Dp(m:Loc)(os op:List V)(sp:Int)(kn:KL)(kr:KV):KV:=fun v h=>ag (gU h v) fun b=>ay (not b) (kr .none h) (Nx m os op sp kn h)
def Na(op:List V):Loc:=ae (ae (ae (ae (ae (ae (ae (fun Y=>none) 435744240755 (.ref 4100)) 28783 (.fl op)) 1701667182 (wN (lN op 0))) 12656 (wN (lN op 1))) 12912 (wN (lN op 2))) 13168 (wN (lN op 3))) 13424 (wN (lN op 4))
theorem ta(cu f n:Nat):T1 O (b_ (.idxDelete cu f n)) s m os sp kn kb kr=O (.fn 42) [.ref 4100,vi f,vi n] s.h fun w h=>aF O (dm O5) (ae (Na (b_ (.idxDelete cu f n))) 1701736295 w) h
  (fun m' h=>Dp m os (b_ (.idxDelete cu f n)) sp kn kr (.bool true) h) (fun Y Y=>none) (Dp m os (b_ (.idxDelete cu f n)) sp kn kr):=by kernel_rfl
theorem DZ(f n:Nat):∀i,i < 3->aF O (dm O5) (ae (Na (b_ (.idxDelete (i+1) f n))) 1701736295 w) (s.cc i q l c).h kn kb kr=ag (ba (s.cc i q l c).h .NotIn w (.ref (4101+i))) fun b=>ay b (kr (.bool false) (s.cc i q l c).h)
  (bg (Nat.ble c 60000) (aj (Ee w (bC l)) fun o=>aj o fun j=>kn (ae (Na (b_ (.idxDelete (i+1) f n))) 1701736295 w) (s.cc i q (bC (wP (bC l) j)) (Nat.pred c)).h))
 |0,_=>by kernel_rfl
 |1,_=>by kernel_rfl
 |2,_=>by kernel_rfl
 |n+3,h=>absurd h (lin 0xc30c3140000101 rfl _)
end
theorem dY(k:Int):∀es:List (Int×V),aL iE es k=es.lookup k
 | []=>rfl
 |(a,v)::r=>by
  refine J List.lookup_cons ?_;by_cases c:a=k
  ·exact J (s0 d7 c _ _)<|J (show(k == a)=true from beq_iff_eq.mpr c.symm) rfl
  ·exact J (lW d7 c _ _)<|J (show(k == a)=false from beq_eq_false_iff_ne.mpr fun q=>c q.symm)<|J (dY k r) rfl
theorem qq(k:Int)(v:V):∀es:List (Int×V),aP iE k v es=lJ es k v
 | []=>rfl
 |(a,w)::r=>by
  refine(?_ :_=if a=k then(a,v)::r else(a,w)::lJ r k v);by_cases c:a=k
  ·exact J (xw d7 c _ _ _)<|J (QM c) rfl
  ·exact J (rR d7 c _ _ _)<|J (QN c)<|J (qq k v r) rfl
theorem pS(k:Int):∀es:List (Int×V),aD iE k es=ju es k
 | []=>rfl
 |(a,w)::r=>by
  refine(?_ :_=if a=k then r else(a,w)::ju r k);by_cases c:a=k
  ·exact J (FZ d7 c _ _)<|J (QM c) rfl
  ·exact J (G3 d7 c _ _)<|J (QN c)<|J (pS k r) rfl
theorem uH(k:Int)(v:V)(es:List (Int×V)):(aP iE k v es).length<=es.length+1:=by
 refine J (qq _ _ _) ?_
 induction es with
 |nil=>exact QR _
 |cons e r ih=>
  obtain⟨a,w⟩:=e;refine(?_ :(if a=k then(a,v)::r else(a,w)::lJ r k v).length<=_);split
  ·exact Nat.le_succ _
  ·exact Q3 ih
theorem sC(k:Int):∀es:List (Int×V),(ju es k).length<=es.length
 | []=>QR _
 |(a,w)::r=>by
  refine(?_ :(if a=k then r else(a,w)::ju r k).length<=_);split
  ·exact Nat.le_succ _
  ·exact Q3 (sC k r)
theorem ub:∀(r:List Int) (i:Int),hM r i=r.foldl max i
 | [],i=>rfl
 |x::r,i=>by
  refine(?_ :hM r (@Bool.rec (fun Y=>Int) i x (decide (i < x)))=r.foldl max (max i x));refine J (ub r _) ?_;congr 1;by_cases c:i < x
  ·exact J (QO c)<|J (Int.max_eq_right (Int.le_of_lt c)) rfl
  ·exact J (QP c)<|J (Int.max_eq_left (by lia)) rfl
theorem qa:∀l:List Int,o0 (l.map V.int)=some l
 | []=>rfl
 |i::r=>by refine(?_ :aj (some i) (fun i=>aj (o0 (r.map V.int)) fun r=>some (i::r))=_);refine J (qa r) ?_;rfl
set_option tactic.hygienic true in
theorem tU(a b:Option Int):rL (ov a) (ov b)=some (a == b):=by
 cases a<;>cases b<;>first|rfl|skip
 rename_i i j;refine(?_ :some (iE i j)=_);refine J (d7 _ _) ?_;congr 1
theorem iO:∀as bs:List (Option Int),tV rL (as.map ov) (bs.map ov)=some (as == bs)
 | [],[]=>rfl
 | [],_::_=>rfl
 |_::_,[]=>rfl
 |a::as,b::bs=>by refine(?_ :aj (rL (ov a) (ov b)) (fun c=>aj (tV rL (as.map ov) (bs.map ov)) fun d=>some (and c d))=_);(refine J (tU _ _)<|J (iO as bs) ?_);rfl
theorem rP:∀w:List (Option Int),nq .none (w.map ov)=some (decide (none∈w))
 | []=>rfl
 |a::w=>by
  refine(?_ :aj (lR (ov a) .none) (fun c=>aj (nq .none (w.map ov)) fun d=>some (or c d))=_);have:lR (ov a) .none=some (a == none):=by cases a<;>rfl
  refine J this<|J (rP w) ?_;cases a<;>simp[aj]
theorem vh(w:List (Option Int)):∀ks:List (List (Option Int)),w∈ks->∃j,Ee (aV w) (ks.map aV)=some (some j)/\(ks.map aV).eraseIdx j=(ks.erase w).map aV
 | [],h=>nomatch h
 |k::ks,h=>by
  obtain e0:lR (aV k) (aV w)=some (k == w):=iO k w
  have tot:∀ks:List (List (Option Int)),∃o,Ee (aV w) (ks.map aV)=some o:=fun ks=>by
   induction ks with
   |nil=>exact⟨_,rfl⟩
   |cons k ks ih=>
    refine xE ih fun o e=>⟨_,by
     refine(?_ :aj (lR (aV k) (aV w)) (fun c=>aj (Ee (aV w) (ks.map aV)) fun r=>some (@Bool.rec (fun Y=>Option Nat) (aj r fun i=>some (Nat.succ i)) (some 0) c))=_)
     (refine J (show lR (aV k) (aV w)=some (k == w) from iO k w)<|J e ?_);rfl⟩
  refine(?_ :∃j,aj (lR (aV k) (aV w)) (fun c=>aj (Ee (aV w) (ks.map aV)) fun r=>some (@Bool.rec (fun Y=>Option Nat) (aj r fun i=>some (Nat.succ i)) (some 0) c))=_/\_);refine J e0 ?_;by_cases c:k=w
  ·refine xE (tot ks) fun o e=>J e<|aQ c<|⟨0,by refine J (beq_self_eq_true _) ?_;rfl,?_⟩;refine J (List.erase_cons_head _ _) ?_;rfl
  ·refine an (vh w ks ((List.mem_cons.mp h).resolve_left fun q=>c q.symm)) fun j e1 e2=>?_;refine J e1<|J (beq_eq_false_iff_ne.mpr c) ?_;refine⟨j+1,rfl,?_⟩;refine J (List.erase_cons_tail (by simpa using c))<|(?_ :aV k::(ks.map aV).eraseIdx j=_);refine J e2 ?_;rfl
theorem v9(w:List (Option Int)):∀ks:List (List (Option Int)),nq (aV w) (ks.map aV)=some (decide (w∈ks))
 | []=>rfl
 |k::ks=>by
  refine(?_ :aj (lR (aV k) (aV w)) (fun c=>aj (nq (aV w) (ks.map aV)) fun d=>some (or c d))=_);refine J (show lR (aV k) (aV w)=some (k == w) from iO k w)<|J (v9 w ks) ?_;refine(?_ :some (k == w || decide (w∈ks))=_);congr 1;by_cases c:k=w
  ·subst c;(exact J (beq_self_eq_true _)<|J (Bool.true_or _)<|J (QO (List.mem_cons_self)) rfl)
  ·refine J (beq_eq_false_iff_ne.mpr c)<|J (Bool.false_or _) ?_;exact decide_eq_decide.mpr ⟨.tail _,fun h=>(List.mem_cons.mp h).resolve_left fun q=>c q.symm⟩
set_option tactic.hygienic true in
theorem vD:∀{l:List V} {w:List (Option Int)},hY l=some w->l=w.map ov
 | [],w,e=>by refine bt e ?_;rfl
 |v::r,w,e=>by
  unfold hY at e;split at e
  ·rename_i a b e1 e2;refine bt e ?_;refine J (vD e2)<|J QV ?_;congr 1;cases v<;>first|exact nn e1|(refine bt e1 ?_;rfl)
  ·exact nn e
theorem yJ(e:lD v=some o):v=ov o:=by cases v<;>first|exact nn e|(refine bt e ?_;rfl)
section
variable{s:RS}
theorem BK(c:Nat):aR s.h (.ref 4099) (vi c)=aL iE s.at' (Int.ofNat c):=by kernel_rfl
theorem AC(r:Nat):aR s.h (.ref 4096) (vi r)=aL iE s.rg (Int.ofNat r):=by kernel_rfl
theorem NL(i:Int):aR s.h (.ref 4097) (.int i)=aL iE s.rw i:=by kernel_rfl
theorem N6(r:Nat)(v:V):eP s.h (.ref 4096) (vi r) v=bg (Nat.ble (aq s.rg) 60000) (some (s.wr (Int.ofNat r) v).h):=by kernel_rfl
theorem Je(r:Nat)(v:V):eP s.h (.ref 4099) (vi r) v=bg (Nat.ble (aq s.at') 60000) (some (s.wa (Int.ofNat r) v).h):=by kernel_rfl
theorem NN(i:Int)(v:V):eP s.h (.ref 4097) (.int i) v=bg (Nat.ble (aq s.rw) 60000) (some (s.ww i v).h):=by kernel_rfl
theorem NF(v:V):eP s.h (.ref 4100) (.lit 32481117229639779) v=some {s with ch:=v}.h:=by kernel_rfl
theorem NO:aR s.h (.ref 4100) (.lit 29793)=some (.ref 4099):=by kernel_rfl
theorem LG:aR s.h (.ref 4100) (.lit 1937207154)=some (.ref 4097):=by kernel_rfl
theorem NU(i:Int):ba s.h .NotIn (.int i) (.ref 4097)=some (not (aL iE s.rw i).isSome):=by kernel_rfl
theorem Kx(i:Int)(k:V->Hp->KX):IM 3 (.ref 4097) (.int i) .none s.h k=bg (Nat.ble (aq s.rw) 60000) (@Option.rec V (fun Y=>KX) (k .none s.h) (fun v=>k v {s with rw:=aD iE i s.rw,e2:=Nat.succ s.e2}.h) (aL iE s.rw i)):=by kernel_rfl
theorem fz(h:a<=n):Nat.ble a n=true:=QH h
theorem bT(h:l.length<=n):Nat.ble (aq l) n=true:=J (aw _)<|QH h
end
section
noncomputable def I2(nk:Nat):List (Int×V):=(1,.ref 4101):: @Nat.casesOn (fun Y=>List (Int×V)) (nk - 1) [] fun n=>(2,.ref 4102):: @Nat.casesOn (fun Y=>List (Int×V)) n [] fun Y=> [(3,.ref 4103)]
def D9(s:RS)(i:Nat)(l:List V):Prop:=match i with
 |0=>s.k1=l/\s.n1=l.length
 |1=>s.t2=lf 4102 (.list l l.length)
 |_=>s.t3=lf 4103 (.list l l.length)
structure jL(nk:Nat)(p:PM)(s:RS)(t:Nat):Prop where
 rg:∀j:Nat,aL iE s.rg (Int.ofNat j)=p.rg j
 rw:s.rw=p.rows
 at':∀j:Nat,aL iE s.at' (Int.ofNat j)=p.at' j
 ch:s.ch=.int p.ch
 kd:s.kd=I2 nk
 ks:∀i,i < nk->D9 s i ((p.ks (i+1)).map aV).reverse/\(p.ks (i+1)).length<=20+t
 b1:s.rg.length<=t
 b2:s.rw.length<=20+t
 b3:s.at'.length<=t
 tp:∀e∈p.rows,∃ys,e.2=V.tup ys
variable{nk t:Nat}
theorem dd:bg true x=x:=rfl
theorem ab:ag (some a) k=k a:=rfl
theorem gh(r:jL nk p s t)(j:Nat):s.reg j=p.reg j:=by delta RS.reg PM.reg;refine J (r.rg _) ?_;cases p.rg j<;>rfl
theorem mj(r:jL nk p s t)(f n:Nat):s.vals f n=p.vals f n:=List.map_congr_left fun i Y=>gh r _
theorem D9.of(h:D9 s i l)(e:s'.k1=s.k1/\s'.n1=s.n1/\s'.t2=s.t2/\s'.t3=s.t3):D9 s' i l:=by
 refine fi e fun e1 e2 e3 e4=>?_
 match i,h with
 |0,h=>exact⟨e1.trans h.1,e2.trans h.2⟩
 |1,h=>exact e3.trans h
 |_+2,h=>exact e4.trans h
theorem IY(r:jL nk p s t)(j:Nat)(v:V):jL nk (p.put j v) (s.wr (Int.ofNat j) v) (t+1) where
 rg i:=by
  refine(?_ :aL iE (aP iE (Int.ofNat j) v s.rg) (Int.ofNat i)=if i=j then some v else p.rg i);refine J (oM d7 _ _ _ _)<|J (r.rg _) ?_;by_cases c:i=j
  ·exact J (QM (congrArg _ c))<|J (QM c) rfl
  ·exact J (QN fun q=>c (Int.ofNat.inj q))<|J (QN c) rfl
 rw:=r.rw
 at':=r.at'
 ch:=r.ch
 kd:=r.kd
 ks i hi:=⟨(r.ks i hi).1.of ⟨rfl,rfl,rfl,rfl⟩,Nat.le_succ_of_le (r.ks i hi).2⟩
 b1:=QQ (uH _ _ _) (Q3 r.b1)
 b2:=QU r.b2
 b3:=QU r.b3
 tp:=r.tp
theorem AF(r:jL nk p s t)(j:Nat)(v:V):jL nk (p.atp j v) (s.wa (Int.ofNat j) v) (t+1) where
 rg:=r.rg
 rw:=r.rw
 at' i:=by
  refine(?_ :aL iE (aP iE (Int.ofNat j) v s.at') (Int.ofNat i)=if i=j then some v else p.at' i);refine J (oM d7 _ _ _ _)<|J (r.at' _) ?_;by_cases c:i=j
  ·exact J (QM (congrArg _ c))<|J (QM c) rfl
  ·exact J (QN fun q=>c (Int.ofNat.inj q))<|J (QN c) rfl
 ch:=r.ch
 kd:=r.kd
 ks i hi:=⟨(r.ks i hi).1.of ⟨rfl,rfl,rfl,rfl⟩,Nat.le_succ_of_le (r.ks i hi).2⟩
 b1:=QU r.b1
 b2:=QU r.b2
 b3:=QQ (uH _ _ _) (Q3 r.b3)
 tp:=r.tp
theorem qN(r:jL nk p s t):jL nk p s (t+1):={r with ks:=fun i hi=>⟨(r.ks i hi).1,Nat.le_succ_of_le (r.ks i hi).2⟩,b1:=QU r.b1,b2:=QU r.b2,b3:=QU r.b3}
def Cm(op:Op)(xs:List V):Prop:=match op with
 |.aff a b=>∃x,xs= [.lit 8751735898823353921,vi a,vi b,vi 0,x]
 |.fail a k=>∃r:List V,r.length<=1/\xs= [.lit 1818845510,vi a,vi 0,vi 0,.tup (.lit (kc k)::r)]
 |op=>xs=b_ op
def KQ(c:fY)(M:Loc):Loc:=match c with
 |.next=>M
 |.jump t=>ae M 1953460339 (vi t)
def yw(nk t:Nat)(s:RS)(xs:List V)(c:fY)(p':PM):Prop:=∃s':RS,jL nk p' s' (t+1)/\s'.lo=s.lo/\s'.n=s.n/\s'.u=s.u/\∀O m os sp kn kb kr,T1 (aa O) xs s m os sp kn kb kr=kn (KQ c (MR m os kL kH (.fl xs) sp)) s'.h
theorem eR(r:jL nk p s t)(h:∀O m os sp kn kb kr,T1 (aa O) xs s m os sp kn kb kr=kn (KQ c (MR m os kL kH (.fl xs) sp)) s.h):yw nk t s xs c p:=⟨s,qN r,rfl,rfl,rfl,h⟩
theorem kg{M:Loc}{kn:KL}{h:Hp}:ay b (kn (ae M 1953460339 (vi t)) h) (kn M h)=kn (KQ (nR b t) M) h:=by cases b<;>rfl
theorem OU(r:jL nk p s t)(ht:t<=2000)(j:Nat)(v:V)(k:Hp->KX):Bi s.h j v k=k (s.wr (Int.ofNat j) v).h:=by delta Bi;(refine J (N6 _ _)<|J (bT (QQ r.b1 (ai 0x7d010500100000ea60105040001 rfl ht))) ?_);rfl
theorem iu(r:jL nk p s t)(ht:t<=2000)(j:Nat)(v:V)(h:∀O m os sp kn kb kr,T1 (aa O) xs s m os sp kn kb kr=Bi s.h j v (Nx m os xs sp kn)):yw nk t s xs .next (p.put j v):=
 ⟨_,IY r j v,rfl,rfl,rfl,fun O m os sp kn kb kr=>(h O m os sp kn kb kr).trans (OU r ht j v _)⟩
theorem vH(e:lD x=some o):ba h .IsNot x .none=some o.isSome/\ba h .Is x .none=some o.isNone:=by refine J (yJ e) ?_;cases o<;>exact⟨rfl,rfl⟩
theorem EE(e:lD x=some o)(e2:lD y=some u):MK h x y a b=if o.isNone || u.isNone then a else b:=by delta MK;refine J ((vH e).2)<|J ((vH e2).2) ?_;cases o<;>cases u<;>rfl
theorem L0(r:jL nk p s t)(ht:t<=2000)(a b:Hp->KX):K6 s.h (.int u) a b=ay (cz p.rows u).isNone (a (s.wa (Int.ofNat 0) (.int u)).h) (b (s.wa (Int.ofNat 0) (.int u)).h):=by delta K6;refine J (Je _ _)<|J (bT (QQ r.b3 (ai 0x7d010500100000ea60105040001 rfl ht)))<|J dd<|J ab<|J NO<|J ab<|J (BK _)<|J (show aL iE (s.wa (Int.ofNat 0) (.int u)).at' (Int.ofNat 0)=some (.int u) from(oM d7 _ _ _ _).trans (QM rfl))<|J ab<|J LG<|J ab<|J (NU _)<|J ab ?_;refine J r.rw<|J (dY _ _) ?_;delta cz;cases p.rows.lookup u<;>rfl
theorem zO(r:jL nk p s t)(ht:t<=2000)(h:∀O m os sp kn kb kr,T1 (aa O) xs s m os sp kn kb kr=K6 s.h (.int u) (Jp m os xs sp t' kn) (Nx m os xs sp kn)):yw nk t s xs (nR (cz p.rows u).isNone t') (p.atp 0 (.int u)):=
 ⟨_,AF r 0 (.int u),rfl,rfl,rfl,fun O m os sp kn kb kr=>(h O m os sp kn kb kr).trans ((L0 r ht _ _).trans kg)⟩
theorem wi(hl:ys.length<=1000)(e:ys[i]? =some v):aR h (.tup ys) (vi i)=some v:=by refine(?_ :bg (Nat.ble (aq ys) 65536) (bg (Nat.blt i (aq ys)) (some i) |> fun o=>aj o fun n=>lN ys n)=_);obtain this:=(List.getElem?_eq_some_iff.mp e).1;refine J (bT (ai 0x3e8105001000010000105040001 rfl hl))<|J (aw _)<|J (show Nat.blt i ys.length=true from QH this) ?_;refine(?_ :lN ys i=_);exact J (hV _ _)<|J e rfl
theorem zw(hl:ys.length<=1000)(e:ys.getLast? =some v):aR h (.tup ys) (.int (-1))=some v:=by refine(?_ :bg (Nat.ble (aq ys) 65536) (aj (bg (Nat.blt 0 (aq ys)) (some (Nat.sub (aq ys) (Nat.succ 0)))) fun n=>lN ys n)=_);rw [List.getLast?_eq_getElem?] at e;obtain this:=(List.getElem?_eq_some_iff.mp e).1;refine J (bT (ai 0x3e8105001000010000105040001 rfl hl))<|J (aw _)<|J (show Nat.blt 0 ys.length=true from QH (ai 0x51800411400c2040002 rfl this)) ?_;refine(?_ :lN ys (ys.length - 1)=_);exact J (hV _ _)<|J e rfl
theorem Ah(r:jL nk p s t)(h3:nk<=3)(hi:i < nk):∃q,s=s.cc i q ((p.ks (i+1)).map aV).reverse ((p.ks (i+1)).map aV).reverse.length:=by
 have k:=(r.ks i hi).1;have d:=r.kd;generalize ((p.ks (i+1)).map aV).reverse=l at k;obtain⟨lo,n,u,rg,e1,rw',e2,kd,e3,at',e4,ch,e5,k1,n1,t2,t3⟩:=s;have d:kd=I2 nk:=d
 match i,hi,k with
 |0,hi,k=>have k:k1=l/\n1=l.length:=k;exact⟨(I2 nk).drop 1,by(refine J d<|J k.1<|J k.2 ?_);rfl⟩
 |1,hi,k=>
  have k:t2=lf 4102 (.list l l.length):=k;obtain⟨n,rfl⟩:∃n,nk=n+2:=⟨nk - 2,Nat.le_antisymm (ai 0x20c60050010020c6005040002 rfl (jw _ _)) (ai 0x6083140001086083140040002 rfl (jI (ai 0x5043001045083040001 rfl hi)))⟩
  exact⟨(I2 (n+2)).drop 2,by(refine J d<|J k ?_);rfl⟩
 |2,hi,k=>have k:t3=lf 4103 (.list l l.length):=k;obtain rfl:nk=3:=QF (ai 0x30c50010030c5040001 rfl h3) (ai 0x50830010450c3040001 rfl hi);exact⟨[],by(refine J d<|J k ?_);rfl⟩
 |j+3,hi,k=>lia
theorem DN(s:RS)(i:Nat)(q:List (Int×V))(l:List V)(n:Nat):(s.cc i q l n).rg=s.rg/\(s.cc i q l n).rw=s.rw/\(s.cc i q l n).at'=s.at'/\(s.cc i q l n).ch=s.ch:=by
 cases i with
 |zero=>exact⟨rfl,rfl,rfl,rfl⟩
 |succ i=>cases i<;>exact⟨rfl,rfl,rfl,rfl⟩
theorem LY(s:RS)(i:Nat)(q:List (Int×V))(l l':List V)(n n':Nat):(s.cc i q l n).kd=(s.cc i q l' n').kd:=by
 cases i with
 |zero=>rfl
 |succ i=>cases i<;>rfl
theorem J4(s:RS)(i:Nat)(q:List (Int×V))(l:List V):D9 (s.cc i q l l.length) i l:=by
 cases i with
 |zero=>exact⟨rfl,rfl⟩
 |succ i=>cases i<;>rfl
theorem J6(hi:i < 3)(hj:j < 3)(c:j≠i)(k:D9 s j x):D9 (s.cc i q l n) j x:=by
 cases i with
 |zero=>cases j with
  |zero=>exact absurd rfl c
  |succ j=>cases j<;>exact k
 |succ i=>cases j with
  |zero=>cases i<;>exact k
  |succ j=>
   cases i<;>cases j<;>first|exact k|exact absurd rfl c|skip
   exact absurd (congrArg (· +2) ((Nat.lt_one_iff.mp (Nat.lt_of_succ_lt_succ (Nat.lt_of_succ_lt_succ hj))).trans (Nat.lt_one_iff.mp (Nat.lt_of_succ_lt_succ (Nat.lt_of_succ_lt_succ hi))).symm)) c
theorem Ao(r:jL nk p s t)(h3:nk<=3)(hi:i < nk)(e:s=s.cc i q l0 n0)(l:List (List (Option Int)))(hl:l.length<=21+t):jL nk (p.kp (i+1) l) (s.cc i q (l.map aV).reverse (l.map aV).reverse.length) (t+1):=by
 refine fi (DN s i q (l.map aV).reverse (l.map aV).reverse.length) fun s1 s2 s3 s4=>⟨fun j=>by refine J s1<|r.rg j,s2.trans r.rw,fun j=>by refine J s3<|r.at' j,s4.trans r.ch,((LY s i q _ l0 _ n0).trans (congrArg RS.kd e.symm)).trans r.kd,fun j hj=>?_,by refine J s1 ?_;exact QU r.b1,J s2<|QU r.b2,J s3<|QU r.b3,r.tp⟩
 refine(?_ :D9 _ j (((if j+1=i+1 then l else p.ks (j+1)).map aV).reverse)/\(if j+1=i+1 then l else p.ks (j+1)).length<=_);by_cases c:j=i
 ·exact aQ c<|J (QM rfl)<|⟨J4 ..,ai 0x1950c0140040043180503005040002 rfl hl⟩
 ·exact J (QN fun q=>c (Nat.succ.inj q))<|⟨J6 (QW hi h3) (QW hj h3) c (r.ks j hj).1,Nat.le_succ_of_le (r.ks j hj).2⟩
end
theorem iW(e:o.map f=some b):∃a,o=some a/\f a=b:=Option.map_eq_some_iff.mp e
theorem rF:∀{l:List (Int×V)},l.lookup k=some v->(k,v)∈l
 | [],e=>nn e
 |(a,w)::r,e=>by
  rw [List.lookup_cons] at e;by_cases c:k=a
  ·rw [show(k == a)=true from beq_iff_eq.mpr c] at e;obtain rfl:=sj e;exact J c<| .head _
  ·rw [show(k == a)=false from beq_eq_false_iff_ne.mpr c] at e;exact .tail _ (rF e)
theorem sI:∀{l:List (Int×V)},e∈ju l k->e∈l
 | [],h=>h
 |(a,w)::r,h=>by
  replace h:e∈if a=k then r else(a,w)::ju r k:=h
  split at h
  ·exact .tail _ h
  ·refine pQ h ?_ fun h=>?_
   ·exact .head _
   ·exact .tail _ (sI h)
theorem vg:∀{l:List (Int×V)},(∀e∈l,∃ys,e.2=V.tup ys)->e∈lJ l i (.tup ys)->∃ys,e.2=V.tup ys
 | [],_,h=>by cases List.mem_singleton.mp h;exact⟨_,rfl⟩
 |(a,w)::r,tp,h=>by
  replace h:e∈if a=i then(a,V.tup ys)::r else(a,w)::lJ r i (.tup ys):=h
  split at h
  ·refine pQ h ?_ fun h=>?_
   ·exact⟨_,rfl⟩
   ·exact tp _ (.tail _ h)
  ·refine pQ h ?_ fun h=>?_
   ·exact tp _ (.head _)
   ·exact vg (fun e he=>tp e (.tail _ he)) h
theorem qp(r:jL nk p s t)(ht:t<=2000)(j:Nat):yw nk t s (b_ (.newRowid j)) .next (p.put j (.int ((p.rows.map (·.1)).foldl max 0+1))):=by
 refine iu r ht j _ fun O m os sp kn kb kr=>?_;have b:=r.b2;obtain e0:dq (fun e:Int×V=>V.int e.1) s.rw=(p.rows.map (·.1)).map V.int:=by(refine J (dz _ _)<|J r.rw<|J QZ ?_);rfl
 have l0:(p.rows.map (·.1)).length<=2020:=by(refine J (QJ _)<|aQ r.rw ?_);exact ai 0x65030050010000007d01060010000007e4105080002 rfl ht b
 obtain e1:cm s.h (.fl [vi 0]) (.fl ((p.rows.map (·.1)).map V.int))=some (.fl ((0::p.rows.map (·.1)).map V.int)):=by refine(?_ :bg (Nat.ble (Nat.add 1 (aq ((p.rows.map (·.1)).map V.int))) 60000) (some (V.fl ((0::p.rows.map (·.1)).map V.int)))=_);(refine J (aw _)<|J (QJ _)<|J (show Nat.ble (Nat.add 1 (p.rows.map (·.1)).length) 60000=true from QH (by exact ai 0x1f9041400400003a98041410c0040001 rfl l0)) ?_);rfl
 obtain e2:∀k:VH (V×Hp),eV 2 (.fl ((0::p.rows.map (·.1)).map V.int)) s.h k=k (.int ((p.rows.map (·.1)).foldl max 0)) s.h:=fun k=>by refine(?_ :aj (o0 ((0::p.rows.map (·.1)).map V.int)) (fun is=>bg (Nat.ble (aq ((0::p.rows.map (·.1)).map V.int)) 60000) (@List.casesOn Int (fun Y=>KX) is none fun i r=>k (.int (hM r i)) s.h))=_);(refine J (qa _)<|J (bT (by(refine J (QJ _)<|J QK ?_);exact ai 0x1f9041400400003a9804043140040001 rfl l0)) ?_;refine aQ (ub _ _) ?_);rfl
 (refine J (uf _ _ _ _ _ _ _ _ _)<|J (bT (ai 0x65030050010000007d010600100000ea60105080002 rfl ht b))<|J dd<|J e0<|J e1<|J ab<|J (e2 _) ?_);rfl
theorem sM(r:jL nk p s t)(ht:t<=2000)(h:n<=1000/\f<=1000000):yw nk t s (b_ (.makeRec f n j)) .next (p.put j (.tup (p.vals f n))):=by refine iu r ht j _ fun O m os sp kn kb kr=>?_;exact J (xy _ _ _ _ _ _ _ _ _ _ _)<|J (tA h.2 h.1)<|J (mj r _ _) rfl
theorem tL(r:jL nk p s t)(ht:t<=2000)(e1:p.at' 0=some (.int k))(e2:cz p.rows k=some (.tup ys))(hl:ys.length<=1000)(e3:ys[i]? =some v):yw nk t s (b_ (.column i j)) .next (p.put j v):=by refine iu r ht j _ fun O m os sp kn kb kr=>?_;exact J (Ac _ _ _ _ _ _ _ _ _ _)<|J (BK _)<|J (r.at' _)<|J e1<|J ab<|J (NL _)<|J (dY _ _)<|J r.rw<|J (show p.rows.lookup k=some (.tup ys) from e2)<|J ab<|J (wi hl e3)<|J ab rfl
theorem sG(r:jL nk p s t)(ht:t<=2000)(h3:nk<=3){w:List (Option Int)}(hc:i+1<=nk/\n<=1000/\f<=1000000/\∀k∈p.ks (i+1),n < k.length/\k.length<=1000)(hw:p.vals f n=w.map ov):
  (none∈w\/(p.ks (i+1)).filter (fun k=>k.take n == w)= []->yw nk t s (b_ (.noConfl (i+1) t' f n)) (.jump t') p)/\∀k r',none ∉ w->(p.ks (i+1)).filter (fun k=>k.take n == w)=k::r'->yw nk t s (b_ (.noConfl (i+1) t' f n)) .next (p.atp (i+1) (.tup (k.map ov))):=by
 have hi:=hc.1;have i3:i < 3:=ai 0x60431400010030c60010030c5080042 rfl h3 hc.1;refine xE (Ah r h3 hi) fun q es=>?_;have lb:=(r.ks i hi).2;let met:=(p.ks (i+1)).filter fun k=>k.take n == w;have ml:met.length<=2020:=QQ (List.length_filter_le _ _) (ai 0x65030050010000007d01060010000007e4105080002 rfl ht lb)
 have key:∀O m os sp kn kb kr,T1 (aa O) (b_ (.noConfl (i+1) t' f n)) s m os sp kn kb kr=aF (aa O) (dm (dm sg)) (ae (IB i t' f n (s.reg (i+1)) (.tup (w.map ov))) 7628141 (.fl (met.map aV))) s.h
   (fun m' h=>aF (aa O) (dm (dm (dm (dm (dm (lE 44)))))) m' h (fun Y h=>n7 m os (b_ (.noConfl (i+1) t' f n)) sp t' kn .none h) (fun Y Y=>none) (n7 m os (b_ (.noConfl (i+1) t' f n)) sp t' kn)) (fun Y Y=>none) (n7 m os (b_ (.noConfl (i+1) t' f n)) sp t' kn):=fun O m os sp kn kb kr=>by
  refine J (wE _ _ _ _ _ _ _ _ _ _ _ _)<|J (tA hc.2.2.1 hc.2.1)<|J (mj r _ _)<|J hw<|J (G' _ _ _ _ _ _) ?_;let pV:V->Bool:=fun x=>@Option.rec Bool (fun Y=>Bool) false (fun b=>b) (aj (x6 x (vi n)) fun y=>ba s.h .Eq y (.tup (w.map ov)))
  have hk:∀k∈p.ks (i+1),x6 (aV k) (vi n)=some (.tup ((k.take n).map ov)):=fun k hk=>by
   refine xA (hc.2.2.2 k hk) fun q1 q2=>(?_ :bg (and (Nat.blt n (aq (k.map ov))) (Nat.ble (aq (k.map ov)) 60000)) (some (V.tup (Ol (k.map ov) n)))=_)
   (refine J (bT (J (QJ _)<|ai 0x3e810500100000ea60105040001 rfl q2)) ?_;refine J (aw _)<|J (QJ _)<|J (show Nat.blt n k.length=true from QH q1)<|J (uh _ _)<|J List.map_take ?_);rfl
  have hp:∀k∈p.ks (i+1),pV (aV k)=(k.take n == w):=fun k hk'=>by refine(?_ :@Option.rec Bool (fun Y=>Bool) false (fun b=>b) (aj (x6 (aV k) (vi n)) _)=_);refine J (hk k hk')<|(?_ :@Option.rec Bool (fun Y=>Bool) false (fun b=>b) (tV rL ((k.take n).map ov) (w.map ov))=_);exact J (iO _ _) rfl
  obtain fm:(((p.ks (i+1)).map aV).filter pV).map id=met.map aV:=by refine J (List.map_id _)<|J List.filter_map ?_;congr 1;exact List.filter_congr fun k hk=>hp k hk
  refine J ((show∀h m k,bS (aa O) (.comp false [13424,110386907865463] false [7955819] Lo K2 (.var 7955819)) m h k=kY false [13424,110386907865463] false [7955819] (bS (aa O) Lo) (bS (aa O) K2) (bS (aa O) (.var 7955819)) m h k from fun Y Y Y=>rfl) _ _ _) ?_
  have cv:=gQ (h:=s.h) (mu:=false) (it:=bS (aa O) Lo) (cd:=bS (aa O) K2) (el:=bS (aa O) (.var 7955819)) (tu:=false) (ts:= [7955819]) (m₀:=IB i t' f n (s.reg (i+1)) (.tup (w.map ov))) (fr:= [13424,110386907865463]) (p:=pV) (f:=id) (P:=pP (dJ [(13424,vi n),(110386907865463,.tup (w.map ov))]) 7955819)
   (h₁:=s.h.set (4101+i) .gone) (n:=((p.ks (i+1)).map aV).reverse.length) (xs:=(p.ks (i+1)).map aV) (k:=fun v h=>aF (aa O) (dm (dm sg)) (ae (IB i t' f n (s.reg (i+1)) (.tup (w.map ov))) 7628141 v) h (fun m' h=>aF (aa O) (dm (dm (dm (dm (dm (lE 44)))))) m' h (fun Y h=>n7 m os (b_ (.noConfl (i+1) t' f n)) sp t' kn .none h) (fun Y Y=>none) (n7 m os (b_ (.noConfl (i+1) t' f n)) sp t' kn)) (fun Y Y=>none) (n7 m os (b_ (.noConfl (i+1) t' f n)) sp t' kn))
   (fun k=>J es<|Mi _ _ _ _ _ _ _ _ _ _ _ i i3) rfl (fun K=>by
    have:=JU s q ((p.ks (i+1)).map aV).reverse ((p.ks (i+1)).map aV).reverse.length K i i3;rw [<-es,bq,List.reverse_reverse] at this;exact this) (J es<|Jy _ _ _ _ i i3) (pi _) (J QL<|QR _) (J (QJ _)<|ai 0x65030050010000007d010600100000ea60105080002 rfl ht lb) kx fun x hx=>?_
  ·obtain cv:=fm▸cv;exact cv
  ·refine mW (List.mem_map.mp hx) fun k hk'=>w9 (fun k'=>?_) fun Y k'=>rfl;refine J (KR _ _ _ _ _ _)<|J (hk k hk')<|J ab ?_;refine(?_ :ag (tV rL ((k.take n).map ov) (w.map ov)) _=_);exact J (iO _ _)<|J ab<|J (hp k hk') rfl
 have isn:isIn s.h .none (.tup (w.map ov))=some (decide (none∈w)):=rP w;have jmp:∀{m:Loc} {os:List V} {sp:Int} {kn:KL} {op:List V},n7 m os op sp t' kn (.bool true) s.h=kn (KQ (.jump t') (MR m os kL kH (.fl op) sp)) s.h:=rfl;refine⟨fun h=>eR r fun O m os sp kn kb kr=>?_,fun k r' hn hm=>?_⟩
 ·refine J (key _ _ _ _ _ _ _) ?_
  cases em:met with
  |nil=>refine J List.map_nil<|J (Kd _ _ _ _ _ _ _ _ _ _ _)<|J isn<|J ab ?_;cases decide (none∈w)<;>exact jmp
  |cons k r'=>
   have hn:=h.resolve_right fun q=>by rw [show met= [] from q] at em;exact nomatch em
   refine J QV<|J (zy _ _ _ _ _ _ _ _ _ _ _ _ _)<|J isn<|J (QO hn) ?_;exact jmp
 ·refine⟨_,AF r (i+1) _,rfl,rfl,rfl,fun O m os sp kn kb kr=>?_⟩;have em:met=k::r':=hm;obtain s1:aR s.h (.fl (aV k::r'.map aV)) (vi 0)=some (aV k):=by refine(?_ :bg (Nat.ble (aq (aV k::r'.map aV)) 65536) (some (aV k))=_);refine J (bT (by(refine J QK<|J (QJ _) ?_);rw [em,List.length_cons] at ml;exact ai 0x7e41010c5000040000400004043140040001 rfl ml)) ?_;rfl
  refine J (key _ _ _ _ _ _ _)<|J em<|J QV<|J (zy _ _ _ _ _ _ _ _ _ _ _ _ _)<|J isn<|J (QP hn)<|J ab<|J s1 ?_;refine(?_ :ag (eP s.h (.ref 4099) (vi (i+1)) (aV k)) _=_);(refine J (Je _ _)<|J (bT (QQ r.b3 (ai 0x7d010500100000ea60105040001 rfl ht))) ?_);rfl
theorem nZ(r:jL nk p s t)(ht:t<=2000)(h3:nk<=3)(hi:i < nk)(e:p.rg j=some (aV ys)):yw nk t s (b_ (.idxInsert (i+1) j)) .next (p.kp (i+1) (p.ks (i+1)++ [ys])):=by
 refine xE (Ah r h3 hi) fun q es=>?_;have lb:=(r.ks i hi).2;refine⟨_,Ao r h3 hi es (p.ks (i+1)++ [ys]) (by refine J QI<|(?_ :_+1<=_);lia),?_,?_,?_,fun O m os sp kn kb kr=>?_⟩
 ·cases i with|zero=>rfl|succ i=>cases i<;>rfl
 ·cases i with|zero=>rfl|succ i=>cases i<;>rfl
 ·cases i with|zero=>rfl|succ i=>cases i<;>rfl
 ·have k:=th (aa O) s m os sp kn kb kr q ((p.ks (i+1)).map aV).reverse ((p.ks (i+1)).map aV).reverse.length j i (ai 0x1850010430c60010030c5080042 rfl h3 hi);rw [<-es] at k;refine J k<|J (AC _)<|J (r.rg _)<|J e<|J ab<|J (show Nat.blt ((p.ks (i+1)).map aV).reverse.length 60000=true from QH (by(refine J QL<|J (QJ _) ?_);exact ai 0x1940c014004000001f4041800400003a9804043140080002 rfl ht lb)) ?_;(refine J List.map_append<|J List.reverse_append ?_);rfl
theorem nQ(r:jL nk p s t)(ht:t<=2000)(h3:nk<=3)(hi:i < nk)(hn:n<=1000/\f<=1000000){w:List (Option Int)}(hw:p.vals f n=w.map ov)(hm:w∈p.ks (i+1)):yw nk t s (b_ (.idxDelete (i+1) f n)) .next (p.kp (i+1) ((p.ks (i+1)).erase w)):=by
 refine xE (Ah r h3 hi) fun q es=>?_;have lb:=(r.ks i hi).2;refine an (vh w (p.ks (i+1)) hm) fun j j1 j2=>⟨_,Ao r h3 hi es ((p.ks (i+1)).erase w) (by obtain this:=List.length_erase_of_mem hm;exact ai 0x72000402050010865030070010065430050c0004 rfl lb this (Nat.sub_le _ _)),?_,?_,?_,fun O m os sp kn kb kr=>?_⟩
 ·cases i with|zero=>rfl|succ i=>cases i<;>rfl
 ·cases i with|zero=>rfl|succ i=>cases i<;>rfl
 ·cases i with|zero=>rfl|succ i=>cases i<;>rfl
 ·refine J (ta _ _ _ _ _ _ _ _ _ _ _)<|J (tA hn.2 hn.1)<|J (mj r _ _)<|J hw ?_;have k:=DZ (aa O) s (fun m' h=>Dp m os (b_ (.idxDelete (i+1) f n)) sp kn kr (.bool true) h) (fun Y Y=>none) (Dp m os (b_ (.idxDelete (i+1) f n)) sp kn kr) q ((p.ks (i+1)).map aV).reverse ((p.ks (i+1)).map aV).reverse.length (.tup (w.map ov)) f n i (ai 0x1850010430c60010030c5080042 rfl h3 hi);rw [<-es,bq,List.reverse_reverse] at k
  have Gy:ba s.h .NotIn (.tup (w.map ov)) (.ref (4101+i))=some false:=by
   obtain sq:jR s.h (.ref (4101+i))=some ((p.ks (i+1)).map aV):=by
    refine J es ?_
    obtain z:∀l n,jR (s.cc i q l n).h (.ref (4101+i))=some (bC l):=fun l n=>by
     match i,hi with
     |0,_|1,_|2,_=>kernel_rfl
     |j+3,hi=>lia
    exact J (z _ _)<|J (bq _)<|J (List.reverse_reverse _) rfl
   refine(?_ :aj (isIn s.h (aV w) (.ref (4101+i))) (fun c=>some (not c))=_);delta isIn;refine J sq<|(?_ :aj (nq (aV w) ((p.ks (i+1)).map aV)) _=_);(refine J (v9 _ _)<|J (QO hm) ?_);rfl
  refine k.trans ?_;(refine J Gy<|J ab<|J (fz (by(refine J QL<|J (QJ _) ?_);exact ai 0x65030050010000007d010600100000ea60105080002 rfl ht lb)) ?_;refine J (show Ee (V.tup (w.map ov)) ((p.ks (i+1)).map aV)=some (some j) from j1) ?_);refine(?_ :kn _ (s.cc i q (bC (wP ((p.ks (i+1)).map aV) j)) (Nat.pred ((p.ks (i+1)).map aV).reverse.length)).h=_);(refine J (bq _)<|J (lQ _ _)<|J j2<|J QL<|J QL<|J (QJ _)<|J (QJ _)<|J (List.length_erase_of_mem hm) ?_);rfl
set_option tactic.hygienic true in
theorem vl(r:jL nk p s t)(ht:t<=2000)(h3:nk<=3){op:Op}(oa:Cm op xs)(e:i9 nk op p=some (c,p')):yw nk t s xs c p':=by
 have yc:∀{j z:Nat} {f:Int->Int->fY} {d:fY},(match lD (p.reg j),lD (p.reg z) with|some (some x),some (some y)=>some (f x y,p)|some _,some _=>some (d,p)|_,_=>none)=some (c,p')->p'=p/\∃o u,lD (s.reg j)=some o/\lD (s.reg z)=some u/\c=match o,u with|some x,some y=>f x y|_,_=>d:=fun{j z f d} e=>by
  refine J (gh r _)<|J (gh r _) ?_
  cases h1:lD (p.reg j) with
  |none=>obtain e:=h1▸e;exact nn e
  |some o=>
   refine iS (lD (p.reg z)) (fun h2=>?_) fun u h2=>?_
   ·rw [h1,h2] at e;cases o<;>exact nn e
   ·rw [h1,h2] at e;cases o<;>cases u<;>(exact xA (pj e) fun ρ0 ρ1=>aQ ρ0<|aQ ρ1<|⟨rfl,_,_,rfl,rfl,rfl⟩)
 cases op with
 |value j v=>subst oa;exact wW e<|iu r ht _ _ fun O m os sp kn kb kr=>DK ..
 |copy a b=>subst oa;exact wW e<|aQ (gh r _)<|iu r ht _ _ fun O m os sp kn kb kr=>Hz ..
 |aff a b=>refine xE oa fun x ρ=>?_;exact J ρ<|wW e<|eR r fun O m os sp kn kb kr=>LD ..
 |newRowid j=>subst oa;exact wW e<|qp r ht j
 |isNull j t'=>subst oa;refine an (iW e) fun o e1 e2=>zh e2<|eR r fun O m os sp kn kb kr=>by(refine J (y7 _ _ _ _ _ _ _ _ _ _)<|J (gh r _)<|J ((vH e1).2)<|J ab ?_);exact kg
 |notNull j t'=>subst oa;refine an (iW e) fun o e1 e2=>zh e2<|eR r fun O m os sp kn kb kr=>by(refine J (x7 _ _ _ _ _ _ _ _ _ _)<|J (gh r _)<|J ((vH e1).1)<|J ab ?_);exact kg
 |mustBeInt j=>subst oa;exact wW e<|eR r fun O m os sp kn kb kr=>sO ..
 |goto t'=>subst oa;exact wW e<|eR r fun O m os sp kn kb kr=>G9 ..
 |cmpGe j t' z=>subst oa;refine x5 (yc e) fun ρ0 o u ψ7=>fp ψ7 fun e1 e2 ρ5=>?_;subst ρ0;subst ρ5;refine eR r fun O m os sp kn kb kr=>(Dw ..).trans ((EE e1 e2).trans ?_);refine J (yJ e1)<|J (yJ e2) ?_;cases o<;>cases u<;>first|rfl|exact kg
 |cmpEq j t' z=>
  subst oa;refine x5 (yc e) fun ρ0 o u ψ7=>fp ψ7 fun e1 e2 ρ5=>?_;subst ρ0;subst ρ5;refine eR r fun O m os sp kn kb kr=>(DW ..).trans ((EE e1 e2).trans ?_);refine J (yJ e1)<|J (yJ e2) ?_;cases o<;>cases u<;>first|rfl|skip
  rename_i x y;refine(?_ :ay (iE x y) _ _=_);exact J (d7 _ _)<|kg
 |notExists t' j=>
  subst oa;cases h:p.reg j<;>(replace e:(match p.reg j with|.int k=>some (nR (cz p.rows k).isNone t',p.atp 0 (.int k))|_=>none)=some (c,p'):=e;obtain e:=h▸e)<;>first|exact nn e|skip
  exact wW e<|zO r ht fun O m os sp kn kb kr=>by(exact J (rj _ _ _ _ _ _ _ _ _ _)<|J (gh r _)<|J h rfl)
 |seek t' j=>
  subst oa;cases h:p.reg j<;>(replace e:(match p.reg j with|.int k=>some (nR (cz p.rows k).isNone t',p.atp 0 (.int k))|_=>none)=some (c,p'):=e;obtain e:=h▸e)<;>first|exact nn e|skip
  exact wW e<|zO r ht fun O m os sp kn kb kr=>by(exact J (HJ _ _ _ _ _ _ _ _ _ _)<|J (gh r _)<|J h rfl)
 |noConfl cu t' f n=>
  subst oa
  replace e:(if 1<=cu/\cu<=nk/\n<=1000/\f<=1000000/\∀k∈p.ks cu,n < k.length/\k.length<=1000 then(hY (p.vals f n)).map fun w=>if none∈w then(fY.jump t',p) else match(p.ks cu).filter (fun k=>k.take n == w) with
    | []=>(.jump t',p)
    |k::_=>(.next,p.atp cu (.tup (k.map ov))) else none)=some (c,p'):=e
  split at e
  ·rename_i hc;refine an (iW e) fun w e1 e2=>?_;obtain⟨i,rfl⟩:∃i,cu=i+1:=⟨cu - 1,Nat.le_antisymm (ai 0x10c60050010010c6005040002 rfl (jw _ _)) (ai 0x6043140001086043140040002 rfl (jI (ai 0x5043001005043040001 rfl hc.1)))⟩
   refine xA (sG (t':=t') r ht h3 hc.2 (vD e1)) fun z1 z2=>?_;by_cases hn:none∈w
   ·obtain e2:=(QM hn)▸e2;exact zh e2<|z1 (.inl hn)
   ·rw [if_neg hn] at e2;refine Pl ((p.ks (i+1)).filter (fun k=>k.take n == w)) (fun hf=>?_) fun k r' hf=>?_
    ·obtain e2:=hf▸e2;exact zh e2<|z1 (.inr hf)
    ·rw [hf] at e2;exact zh e2<|z2 k r' hn hf
  ·exact nn e
 |idxRowid cu j=>
  subst oa;refine iS (p.at' cu) (fun h=>?_) fun x h=>?_
  ·replace e:(match p.at' cu with|some (.tup ys)=>if ys.length<=1000 then ys.getLast?.map fun v=>(fY.next,p.put j v) else none|_=>none)=some (c,p'):=e;obtain e:=h▸e;exact nn e
  ·replace e:(match p.at' cu with|some (.tup ys)=>if ys.length<=1000 then ys.getLast?.map fun v=>(fY.next,p.put j v) else none|_=>none)=some (c,p'):=e;obtain e:=h▸e;cases x<;>first|exact nn e|skip
   rename_i ys;replace e:(if ys.length<=1000 then ys.getLast?.map fun v=>(fY.next,p.put j v) else none)=some (c,p'):=e;split at e
   ·exact an (iW e) fun v e1 e2=>zh e2<|iu r ht _ _ fun O m os sp kn kb kr=>by(exact J (uq _ _ _ _ _ _ _ _ _ _)<|J (BK _)<|J (r.at' _)<|J h<|J ab<|J (zw ‹_› e1)<|J ab rfl)
   ·exact nn e
 |column i j=>
  subst oa;replace e:(match p.at' 0 with|some (.int k)=>(match cz p.rows k with|some (.tup ys)=>if ys.length<=1000 then ys[i]?.map fun v=>(fY.next,p.put j v) else none|_=>none)|_=>none)=some (c,p'):=e
  cases h:p.at' 0 with
  |none=>obtain e:=h▸e;exact nn e
  |some x=>
   obtain e:=h▸e;cases x<;>first|exact nn e|skip
   rename_i k;replace e:(match cz p.rows k with|some (.tup ys)=>if ys.length<=1000 then ys[i]?.map fun v=>(fY.next,p.put j v) else none|_=>none)=some (c,p'):=e;refine iS (cz p.rows k) (fun h2=>?_) fun y h2=>?_
   ·obtain e:=h2▸e;exact nn e
   ·obtain e:=h2▸e;cases y<;>first|exact nn e|skip
    rename_i ys;replace e:(if ys.length<=1000 then ys[i]?.map fun v=>(fY.next,p.put j v) else none)=some (c,p'):=e;split at e
    ·exact an (iW e) fun v e1 e2=>zh e2<|tL r ht h h2 ‹_› e1
    ·exact nn e
 |rowid j=>subst oa;exact an (iW e) fun v e1 e2=>zh e2<|iu r ht _ _ fun O m os sp kn kb kr=>by(exact J (Dl _ _ _ _ _ _ _ _ _)<|J (BK _)<|J (r.at' _)<|J e1<|J ab rfl)
 |makeRec f n j=>
  subst oa;replace e:(if n<=1000/\f<=1000000 then some (fY.next,p.put j (.tup (p.vals f n))) else none)=some (c,p'):=e;split at e
  ·exact wW e<|sM r ht ‹_›
  ·exact nn e
 |addInt j=>
  subst oa;replace e:(match p.rg j with|some (.int i)=>some (fY.next,p.put j (.int (i+1)))|_=>none)=some (c,p'):=e;refine iS (p.rg j) (fun h=>?_) fun x h=>?_
  ·obtain e:=h▸e;exact nn e
  ·obtain e:=h▸e;cases x<;>first|exact nn e|skip
   refine wW e<|iu r ht _ _ fun O m os sp kn kb kr=>by(refine J (yI _ _ _ _ _ _ _ _ _)<|J (AC _)<|J (r.rg _)<|J h<|J ab ?_);rfl
 |idxInsert cu j=>
  subst oa;replace e:(if 1<=cu/\cu<=nk then(match p.rg j with|some (.tup ys)=>(hY ys).map fun xs=>(fY.next,p.kp cu (p.ks cu++ [xs]))|_=>none) else none)=some (c,p'):=e;split at e
  ·rename_i hc;obtain⟨i,rfl⟩:∃i,cu=i+1:=⟨cu - 1,Nat.le_antisymm (ai 0x10c60050010010c6005040002 rfl (jw _ _)) (ai 0x6043140001086043140040002 rfl (jI (ai 0x5043001005043040001 rfl hc.1)))⟩
   refine iS (p.rg j) (fun h=>?_) fun x h=>?_
   ·obtain e:=h▸e;exact nn e
   ·obtain e:=h▸e;cases x<;>first|exact nn e|skip
    refine an (iW e) fun v e1 e2=>zh e2<|nZ r ht h3 hc.2 (by(refine J h<|J (vD e1) ?_);rfl)
  ·exact nn e
 |insert j k l=>
  subst oa;replace e:(match p.rg j,p.rg k with|some (.tup ys),some (.int i)=>some (fY.next,{p with rows:=lJ p.rows i (.tup ys)})|_,_=>none)=some (c,p'):=e;split at e
  ·rename_i ys i e1 e2;refine wW e<|⟨s.ww i (.tup ys),{qN r with rw:=?_,b2:=?_,tp:=fun e he=>?_},rfl,rfl,rfl,fun O m os sp kn kb kr=>?_⟩
   ·refine(?_ :aP iE i (.tup ys) s.rw=_);(exact J (qq _ _ _)<|J r.rw rfl)
   ·exact QQ (uH _ _ _) (by have:=r.b2;exact ai 0x65030050010010c60140c0043140040002 rfl this)
   ·exact vg r.tp he
   ·(refine J (zT _ _ _ _ _ _ _ _ _ _ _)<|J (AC _)<|J (r.rg _)<|J e1<|J ab<|J (AC _)<|J (r.rg _)<|J e2<|J ab<|J (NN _ _)<|J (bT (QQ r.b2 (ai 0x1f4041400400003a98041540c0040001 rfl ht))) ?_);rfl
  ·exact nn e
 |delete=>
  refine J oa ?_;replace e:(match p.at' 0 with|some (.int k)=>(cz p.rows k).map fun Y=>(fY.next,{p with rows:=ju p.rows k})|_=>none)=some (c,p'):=e;refine iS (p.at' 0) (fun h=>?_) fun x h=>?_
  ·obtain e:=h▸e;exact nn e
  ·obtain e:=h▸e;cases x<;>first|exact nn e|skip
   rename_i k;refine an (iW (show(cz p.rows k).map (fun Y=>(fY.next,{p with rows:=ju p.rows k}))=some (c,p') from e)) fun v e1 e2=>zh e2<|⟨{s with rw:=aD iE k s.rw,e2:=Nat.succ s.e2},{qN r with rw:=?_,b2:=?_,tp:=fun e he=>r.tp e (sI he)},rfl,rfl,rfl,fun O m os sp kn kb kr=>?_⟩
   ·refine(?_ :aD iE k s.rw=_);(exact J (pS _ _)<|J r.rw rfl)
   ·refine(?_ :(aD iE k s.rw).length<=_);exact J (pS _ _)<|QQ (sC _ _) (by obtain this:=r.b2;exact ai 0x1940c0140040043180503005040002 rfl this)
   ·refine J (yV _ _ _ _ _ _ _ _)<|J (BK _)<|J (r.at' _)<|J h<|J ab<|J (Kx _ _)<|J (bT (QQ r.b2 (ai 0x1f4041400400003a98041540c0040001 rfl ht)))<|J dd<|J (dY _ _)<|J r.rw<|J (show p.rows.lookup k=some v from e1) ?_;refine xE (r.tp _ (rF e1)) fun ys hy=>J (show v=.tup ys from hy) ?_;rfl
 |idxDelete cu f n=>
  subst oa;replace e:(if 1<=cu/\cu<=nk/\n<=1000/\f<=1000000 then(hY (p.vals f n)).bind (fun w=>if w∈p.ks cu then some (fY.next,p.kp cu ((p.ks cu).erase w)) else none) else none)=some (c,p'):=e;split at e
  ·rename_i hc;obtain⟨i,rfl⟩:∃i,cu=i+1:=⟨cu - 1,Nat.le_antisymm (ai 0x10c60050010010c6005040002 rfl (jw _ _)) (ai 0x6043140001086043140040002 rfl (jI (ai 0x5043001005043040001 rfl hc.1)))⟩
   refine an (Option.bind_eq_some_iff.mp e) fun w e1 e2=>?_;split at e2
   ·exact wW e2<|nQ r ht h3 hc.2.1 hc.2.2 (vD e1) ‹_›
   ·exact nn e2
  ·exact nn e
 |changes j=>
  subst oa;replace e:(match p.rg j with|some (.int i)=>some (fY.next,{p with ch:=p.ch+i})|_=>none)=some (c,p'):=e;refine iS (p.rg j) (fun h=>?_) fun x h=>?_
  ·obtain e:=h▸e;exact nn e
  ·obtain e:=h▸e;cases x<;>first|exact nn e|skip
   rename_i i;refine wW e<|⟨{s with ch:=.int (p.ch+i)},{qN r with ch:=rfl},rfl,rfl,rfl,fun O m os sp kn kb kr=>?_⟩;refine J (xP _ _ _ _ _ _ _ _ _)<|J (AC _)<|J (r.rg _)<|J h<|J ab<|J r.ch ?_;refine(?_ :ag (eP s.h (.ref 4100) (.lit 32481117229639779) (.int (p.ch+i))) _=_);refine J (NF _) ?_;rfl
 |fail _ _=>exact nn e
 |halt=>exact nn e
section
variable{os:List V}{O:CK}
abbrev Li(os:List V)(P:List Op):Prop:=aT (fun op v=>∃xs,v=.fl xs/\Cm op xs) P os
theorem zd(e:KF v=some l):v=.fl l:=by cases v<;>first|exact nn e|(refine bt e ?_;rfl)
theorem HD(op:Op):∃n t,b_ op=.lit n::t:=by cases op<;>exact⟨_,_,rfl⟩
theorem Ew{t t':List V}(n:a≠b)(e:V.lit a::t=.lit b::t'):False:=by injection e with e;injection e with e;exact n e
theorem De{t:List V}(e:b_ op=.lit 8751735898823353921::t):∃a b,op=.aff a b:=by cases op<;>first|exact⟨_,_,rfl⟩|exact(Ew (by decide) e).elim
theorem rV {t:List V} (e:b_ op=.lit 1818845510::t):∃a b,op=.fail a b:=by cases op<;>first|exact⟨_,_,rfl⟩|exact(Ew (by decide) e).elim
theorem LV {r:List V} (e:pY v r 3= [x,y,z,u]):∃d,r= [x,y,z,d]/\u=v:=by
 match r,e with
 | [a,b,c,d],e=>replace e: [a,b,c,v]= [x,y,z,u]:=e;cases e;exact⟨d,rfl,rfl⟩
 | [],e=>exact nomatch e
 | [_],e=>exact nomatch e
 | [_,_],e=>exact nomatch e
 | [_,_,_],e=>exact nomatch e
 |a::b::c::d::f::r,e=>replace e:a::b::c::v::f::r= [x,y,z,u]:=e;cases e
theorem FB(e:I8 v=.fl (b_ op)):∃xs,v=.fl xs/\Cm op xs:=by
 refine ij (HD op) fun n' t' en=>?_
 cases hv:KF v with
 |none=>
  have:I8 v=v:=by delta I8;exact J hv rfl
  rw [this] at e;rw [e] at hv;exact nn hv.symm
 |some l=>
  obtain rfl:=zd hv
  match l,e with
  | [],e=>rw [en] at e;exact nomatch (show V.fl []=.fl (.lit n'::t') from e)
  |nm::r,e=>
   replace e:@Option.rec Nat (fun Y=>V) (V.fl (nm::r)) (fun n=>@Bool.rec (fun Y=>V) (@Bool.rec (fun Y=>V) (.fl (nm::r)) (@Option.rec V (fun Y=>V) (.fl (nm::r)) (fun d=>.fl (nm::pY (Lf d) r 3)) (lN r 3)) (Nat.beq n 1818845510)) (.fl (nm::pY .none r 3)) (Nat.beq n 8751735898823353921)) (di nm)=V.fl (b_ op):=e
   cases hn:di nm with
   |none=>
    (obtain e:=hn▸e;obtain e:=en▸e)
    injection e with e;injection e with e
    obtain hn:=e▸hn;exact nn hn.symm
   |some n=>
    obtain rfl:=iy hn;replace e:@Bool.rec (fun Y=>V) (@Bool.rec (fun Y=>V) (.fl (.lit n::r)) (@Option.rec V (fun Y=>V) (.fl (.lit n::r)) (fun d=>.fl (.lit n::pY (Lf d) r 3)) (lN r 3)) (Nat.beq n 1818845510)) (.fl (.lit n::pY .none r 3)) (Nat.beq n 8751735898823353921)=V.fl (b_ op):=e;have as:∀{x},V.fl (.lit n::x)=V.fl (b_ op)->b_ op=.lit n::x:=fun q=>by injection q with q;exact q.symm
    cases h1:Nat.beq n 8751735898823353921 with
    |true=>
     rw [h1] at e;obtain rfl:=QT h1;have e:=as e;refine ij (De e) fun a b ρ=>?_;subst ρ;injection e with _ e
     exact an (LV e.symm) fun d ρ Y=>J ρ<|⟨_,rfl,d,rfl⟩
    |false=>
     rw [h1] at e
     cases h2:Nat.beq n 1818845510 with
     |false=>rw [h2] at e;have e:=as e;refine⟨_,rfl,?_⟩;cases op<;>first|exact e.symm|(injection e with e;injection e with e;rw [<-e] at h1 h2;first|(rw [Nat.beq_refl] at h1;exact d_ h1.symm)|(rw [Nat.beq_refl] at h2;exact d_ h2.symm))
     |true=>
      rw [h2] at e;obtain rfl:=QT h2
      cases h3:lN r 3 with
      |none=>
       obtain e:=h3▸e;have e:=as e;refine ij (rV e) fun a b ρ=>?_;subst ρ;injection e with _ e
       obtain h3:=e▸h3;exact nn h3.symm
      |some d=>
       rw [h3] at e;have e:=as e;refine ij (rV e) fun a k ρ=>?_;subst ρ;injection e with _ e
       refine an (LV e.symm) fun d' ρ e4=>?_;subst ρ;cases h3
       have z:∃r:List V,r.length<=1/\d=.tup (.lit (kc k)::r):=by
        refine iS (iJ d) (fun hd=>?_) fun l hd=>?_
        ·obtain this:Lf d=d:=by delta Lf;exact J hd rfl
         rw [this] at e4;obtain hd:=e4▸hd;exact nn hd.symm
        ·obtain rfl:=iH hd
         match l,e4 with
         | [],e4=>exact nomatch (show V.tup [.lit (kc k)]=.tup [] from e4)
         | [x],e4=>have e4:V.tup [.lit (kc k)]=.tup [x]:=e4;cases e4;exact⟨[],Nat.zero_le _,rfl⟩
         | [x,y],e4=>have e4:V.tup [.lit (kc k)]=.tup [x]:=e4;cases e4;exact⟨[y],Nat.le_refl _,rfl⟩
         |x::y::z::l,e4=>exact nomatch (show V.tup [.lit (kc k)]=.tup (x::y::z::l) from e4)
       exact an z fun r h ρ=>J ρ<|⟨_,rfl,r,h,rfl⟩
theorem AG:∀{os:List V} {P:List Op},dq I8 os=P.map (fun op=>V.fl (b_ op))->Li os P
 | [],[],_=>.nil
 | [],_::_,e=>nomatch e
 |_::_,[],e=>nomatch e
 |v::os,op::P,e=>by
  obtain e:=e;injection e with e1 e2
  exact .cons (FB e1) (AG e2)
structure LM(m:Loc)(os:List V)(sp:Nat):Prop where
 st:m 435744240755=some (.ref 4100)
 os:m 7565423=some (.fl os)
 jm:m 495807460714=some (.fl kL)
 wr:m 126879581958775=some (.fl kH)
 sp:m 1953460339=some (vi sp)
theorem aM{c:Nat}{v:V}(e:m c=some v):ae m c v=m:=funext fun j=>by
 delta ae;refine fE (Nat.beq j c) (fun h=>?_) fun h=>?_
 ·exact J (QT h)<|J e rfl
 ·rfl
abbrev M5(m:Loc)(os:List V)(sp:Nat):Loc:=ae (ae (ae (ae (ae m 1953460339 (vi sp)) 435744240755 (.ref 4100)) 7565423 (.fl os)) 495807460714 (.fl kL)) 126879581958775 (.fl kH)
theorem LM.eq{sp:Nat}(h:LM m os sp):m=M5 m os sp:=by delta M5;exact J (aM h.sp)<|J (aM h.st)<|J (aM h.os)<|J (aM h.jm)<|J (aM h.wr) rfl
theorem Oy(h:Hp)(sp:Nat)(kn kb:KL)(kr:KV)(T:S):aF (aa O) (.seq (dZ wO) (.seq (dZ (dm wO)) T)) (M5 m os sp) h kn kb kr=ag (aR h (.fl os) (vi sp)) fun v=>aF (aa O) T (MR (ae m 1953460339 (vi sp)) os kL kH v (Int.ofNat (sp+1))) h kn kb kr:=by kernel_rfl
theorem Hh:wO=.seq (dZ wO) (.seq (dZ (dm wO)) tS):=by kernel_rfl
theorem N_(h:Hp)(sp:Nat)(kn kb:KL)(kr:KV):aF (aa O) wO (M5 m os sp) h kn kb kr=ag (aR h (.fl os) (vi sp)) fun v=>aF (aa O) tS (MR (ae m 1953460339 (vi sp)) os kL kH v (Int.ofNat (sp+1))) h kn kb kr:=(congrArg (fun b=>aF (aa O) b (M5 m os sp) h kn kb kr) Hh).trans (Oy h sp kn kb kr tS)
theorem KU(sp:Nat):LM (MR m os kL kH op (Int.ofNat sp)) os sp:=⟨rfl,rfl,rfl,rfl,rfl⟩
theorem EK(sp sp':Nat)(c:fY)(h:(c=.next/\sp'=sp)\/c=.jump sp'):LM (KQ c (MR m os kL kH op (Int.ofNat sp))) os sp':=by
 refine Or.elim h (fun ρ=>?_) fun ρ=>?_
 ·exact xA ρ fun ρ0 ρ1=>J ρ0<|J ρ1<|KU _
 ·exact J ρ<|⟨rfl,rfl,rfl,rfl,rfl⟩
theorem pG(hl:ys.length<=2000)(e:ys[i]? =some v):aR h (.fl ys) (vi i)=some v:=by refine(?_ :bg (Nat.ble (aq ys) 65536) (aj (bg (Nat.blt i (aq ys)) (some i)) fun n=>lN ys n)=_);obtain this:=(List.getElem?_eq_some_iff.mp e).1;refine J (bT (ai 0x7d0105001000010000105040001 rfl hl))<|J (aw _)<|J (show Nat.blt i ys.length=true from QH this) ?_;refine(?_ :lN ys i=_);exact J (hV _ _)<|J e rfl
def Nu(v:V):V:=match v with
 |.lit k=>.lit (kc k)
 |v=>v
abbrev pn(O:CK)(n i:Nat)(m:Loc)(h:Hp)(kn:KL)(kr:KV):KX:=dw (hU (aa (aa O)) (.var false 1852994932)) (aF (aa (aa O)) wO) n (.r i 2000) m h kn kr
theorem Gg(hi:i < 2000):pn O (n+1) i m h kn kr=aF (aa (aa O)) wO (ae m 1852994932 (vi i)) h (fun m h=>pn O n (i+1) m h kn kr) kn kr:=by refine(?_ :@Bool.rec (fun Y=>KX) _ (aF (aa (aa O)) wO (ae m 1852994932 (vi i)) h (fun m h=>dw (hU (aa (aa O)) (.var false 1852994932)) (aF (aa (aa O)) wO) n (.r (Int.add i 1) 2000) m h kn kr) kn kr) (decide ((i:Int) < 2000))=_);refine J (QO (by lia)) ?_;rfl
theorem LM.turn{sp:Nat}{v:V}(h:LM m os sp):LM (ae m 1852994932 v) os sp:=⟨h.st,h.os,h.jm,h.wr,h.sp⟩
theorem DO(pg:Li os P)(hP:P.length<=1900)(h3:nk<=3)(x:Ex nk P sp p r q):∀(n i:Nat) (m:Loc) (s:RS),i+n=2000->i<=sp->LM m os sp->jL nk p s i->
  ∃(s':RS) (t':Nat),jL nk q s' t'/\t'<=2000/\s'.lo=s.lo/\s'.n=s.n/\s'.u=s.u/\∀kn kr,pn O n i m s.h kn kr=kr (.fl [r.1,Nu r.2]) s'.h:=by
 have ol:=pg.length;have go:∀{sp:Nat} {op:Op} {n i:Nat} {m:Loc} {s:RS},P[sp]? =some op->i < 2000->LM m os sp->∃xs,Cm op xs/\∀kn kr,pn O (n+1) i m s.h kn kr=T1 (aa O) xs s (ae (ae m 1852994932 (vi i)) 1953460339 (vi sp)) os (Int.ofNat (sp+1)) (fun m h=>pn O n (i+1) m h kn kr) kn kr:=fun{sp op n i m s} h hi lm=>by refine an (pg.get h) fun v ev ψ7=>an ψ7 fun xs ρ oa=>?_;subst ρ;refine⟨xs,oa,fun kn kr=>?_⟩;refine J (Gg hi)<|J lm.turn.eq<|J (N_ _ _ _ _ _)<|J (pG (ai 0x18500108000076c1060010000007d0105080002 rfl hP ol) ev)<|J ab ?_;exact aQ lm.turn.eq rfl
 induction x with
 |halt h=>
  intro n i m s e1 e2 lm r;have:=(List.getElem?_eq_some_iff.mp h).1;obtain⟨n,rfl⟩:∃k,n=k+1:=⟨n - 1,by lia⟩
  refine an (go (n:=n) (i:=i) (s:=s) h (ai 0x1f4040431801400010800007d0105040042 rfl e1) lm) fun xs oa g=>?_;subst oa;exact⟨s,i,r,ai 0x1f4040431801400010800007d0105040002 rfl e1,rfl,rfl,rfl,fun kn kr=>(g kn kr).trans (IX ..)⟩
 |fail h=>
  intro n i m s e1 e2 lm r;have:=(List.getElem?_eq_some_iff.mp h).1;obtain⟨n,rfl⟩:∃k,n=k+1:=⟨n - 1,by lia⟩
  refine an (go (n:=n) (i:=i) (s:=s) h (ai 0x1f4040431801400010800007d0105040042 rfl e1) lm) fun xs oa g=>an oa fun r' hr ρ=>?_;subst ρ;exact⟨s,i,r,by exact ai 0x1f4040431801400010800007d0105040002 rfl e1,rfl,rfl,rfl,fun kn kr=>(g kn kr).trans ((Fq ..).trans (by(refine J (wi (J QK<|ai 0x4314004000000fa04043140040001 rfl hr) rfl) ?_;refine J ab ?_);rfl))⟩
 |next h e x ih=>
  intro n i m s e1 e2 lm r;have:=(List.getElem?_eq_some_iff.mp h).1;obtain⟨n,rfl⟩:∃k,n=k+1:=⟨n - 1,by lia⟩
  refine an (go (n:=n) (i:=i) (s:=s) h (ai 0x1f4040431801400010800007d0105040042 rfl e1) lm) fun xs oa g=>cR (vl r (ai 0x1f4040431801400010800007d0105040002 rfl e1) h3 oa e) fun s1 r1 f1 f2 f3 g1=>?_;obtain⟨s2,t2,r2,f0,f4,f5,f6,g2⟩:=ih n (i+1) _ s1 (QF (ai 0x7d01010c600500004200001f4041810c5000040002 rfl e1) (ai 0x7d01010c60050000451810c500000001f404040002 rfl e1)) (ai 0x6140040043180043140040002 rfl e2) (EK _ _ .next (.inl ⟨rfl,rfl⟩)) r1;exact⟨s2,t2,r2,f0,f4.trans f1,f5.trans f2,f6.trans f3,fun kn kr=>(g kn kr).trans ((g1 ..).trans (g2 kn kr))⟩
 |jump h e l x ih=>
  intro n i m s e1 e2 lm r;have:=(List.getElem?_eq_some_iff.mp h).1;obtain⟨n,rfl⟩:∃k,n=k+1:=⟨n - 1,by lia⟩
  refine an (go (n:=n) (i:=i) (s:=s) h (ai 0x1f4040431801400010800007d0105040042 rfl e1) lm) fun xs oa g=>cR (vl r (ai 0x1f4040431801400010800007d0105040002 rfl e1) h3 oa e) fun s1 r1 f1 f2 f3 g1=>?_;obtain⟨s2,t2,r2,f0,f4,f5,f6,g2⟩:=ih n (i+1) _ s1 (QF (ai 0x7d01010c600500004200001f4041810c5000040002 rfl e1) (ai 0x7d01010c60050000451810c500000001f404040002 rfl e1)) (ai 0x7140040187001046043140080003 rfl l e2) (EK _ _ (.jump _) (.inr rfl)) r1;exact⟨s2,t2,r2,f0,f4.trans f1,f5.trans f2,f6.trans f3,fun kn kr=>(g kn kr).trans ((g1 ..).trans (g2 kn kr))⟩
def nK:FR:=@Option.rec FR (fun Y=>FR) ⟨[],.bad⟩ (fun r=>r) (tn 47)
def Mu(os:List V):Loc:=ae (ae (ae (ae (ae (fun Y=>none) 435744240755 (.ref 4100)) 7565423 (.fl os)) 495807460714 (.fl kL)) 126879581958775 (.fl kH)) 1953460339 (vi 0)
theorem Lm(F:S)(k:KV):bG (aa O) ⟨nK.ps,.seq (dZ nK.b) (.seq (dZ (dm nK.b)) F)⟩ [.ref 4100,.fl os] h k=aF (aa O) F (Mu os) h (fun Y h=>k .none h) (fun Y Y=>none) k:=by kernel_rfl
theorem Ml:nK=⟨nK.ps,.seq (dZ nK.b) (.seq (dZ (dm nK.b)) (.seq (.for1 (.var false 1852994932) (.c (.blt 1) (.cons (.val (.int 2000)) .nil)) wO) (.seq (.ret (.val .none)) .skip)))⟩:=by kernel_rfl
theorem LJ(k:KV):bS (aa O) (.c (.blt 1) (.cons (.val (.int 2000)) .nil)) (Mu os) h k=k (.rng 0 2000) h:=by kernel_rfl
theorem Mv(K:Nat->It->Hp->KX):bR h (.rng 0 2000) K=K 2000 (.r 0 2000) h:=by kernel_rfl
theorem JH(k:KV):bG (aa (aa O)) nK [.ref 4100,.fl os] h k=pn O 2000 0 (Mu os) h (fun Y h=>k .none h) k:=by exact(congrArg (fun b=>bG (aa (aa O)) b [.ref 4100,.fl os] h k) Ml).trans ((Lm _ k).trans ((LJ fun a h=>bR h a fun n it h₁=>dw (hU (aa (aa O)) (.var false 1852994932)) (aF (aa (aa O)) wO) n it (Mu os) h₁ (fun m h'=>(fun Y h=>k .none h) m (be h a h')) fun v h'=>k v (be h a h')).trans (Mv _)))
theorem Gb(pg:Li os P)(hP:P.length<=1900)(h3:nk<=3)(x:Ex nk P 0 p r q)(rp:jL nk p s 0):∃(s':RS) (t':Nat),jL nk q s' t'/\t'<=2000/\s'.lo=s.lo/\s'.n=s.n/\s'.u=s.u/\∀k,bG (aa (aa O)) nK [.ref 4100,.fl os] s.h k=k (.fl [r.1,Nu r.2]) s'.h:=by exact bf (DO pg hP h3 x 2000 0 (Mu os) s rfl (QR _) ⟨rfl,rfl,rfl,rfl,rfl⟩ rp) fun s' t' h1 h2 h4 h5 h6 h7=>⟨s',t',h1,h2,h4,h5,h6,fun k=>(JH k).trans (h7 _ _)⟩
end
section
variable{t:Tr}{n:Nat}{u:List Nat}
noncomputable abbrev gH(lo:Nat->Option aB)(t:Tr)(n:Nat)(u:List Nat):Hp:=⟨lo,4096,t,n,u⟩
theorem iz(h:Nat.blt a b=true):a < b:=QG h
theorem jY(hi:i < 4096):(gH lo t n u).obj i=lo i:=by
 refine(?_ :@Bool.rec (fun Y=>Option aB) (lo i) _ (Nat.ble 4096 i)=_);refine fE (Nat.ble 4096 i) (fun q=>?_) fun q=>?_
 ·exact absurd (QG q) (ai 0x10001050010450000400040400c1 rfl hi)
 ·rfl
theorem Kz(hi:i < 4096):(gH lo t n u).set i o=gH (bD lo i o) t n u:=by
 refine(?_ :@Bool.rec (fun Y=>Hp) _ _ (Nat.ble 4096 i)=_);refine fE (Nat.ble 4096 i) (fun q=>?_) fun q=>?_
 ·exact absurd (QG q) (ai 0x10001050010450000400040400c1 rfl hi)
 ·rfl
theorem tZ(e:mQ v=some j):v=.ref j:=by cases v<;>first|exact nn e|(refine bt e ?_;rfl)
theorem vQ{k:List V->Nat->Option α}{r:α}(e:dR o none k=some r):∃rs n,o=.list rs n/\k rs n=some r:=by cases o<;>first|exact nn e|exact⟨_,_,rfl,e⟩
theorem pF:∀{l:List V} {b:Nat} {ops:List V},BX h l b=some ops->(∀i,b < i->i < 4096->h'.obj i=h.obj i)->BX h' l b=some ops
 | [],b,ops,e,_=>e
 |v::l,b,ops,e,q=>by refine an (ah (show aj (mQ v) (fun j=>bg (and (Nat.blt b j) (Nat.blt j 4096)) (aj (h.obj j) fun o=>dR o none fun rs Y=>aj (BX h l j) fun r=>some (.fl (bC rs)::r)))=some ops from e)) fun j e1 e=>xA (aW e) fun e2 e=>xA (aX e2) fun b1 b2=>an (ah e) fun o e3 e=>dy (vQ e) fun rs n ρ e=>?_;subst ρ;refine an (ah e) fun r e4 e=>bt e<|(?_ :aj (mQ v) (fun j=>bg (and (Nat.blt b j) (Nat.blt j 4096)) (aj (h'.obj j) fun o=>dR o none fun rs Y=>aj (BX h' l j) fun r=>some (V.fl (bC rs)::r)))=_);refine J e1<|(?_ :bg (and (Nat.blt b j) (Nat.blt j 4096)) _=_);refine J e2<|J (q j (iz b1) (iz b2))<|J e3 ?_;refine(?_ :aj (BX h' l j) _=_);refine J (pF e4 fun i hi h4=>q i (Nat.lt_trans (iz b1) hi) h4) ?_;rfl
theorem wB:∀{l:List V} {b:Nat} {ops:List V} {lo:Nat->Option aB},BX (gH lo t n u) l b=some ops->∃lo2,(∀j,j<=b->lo2 j=lo j)/\(∀j,lo2 j≠lo j->V.ref j∈l/\∃rs n,lo j=some (.list rs n))/\∀t n u k,nW l (gH lo t n u) k=k ops (gH lo2 t n u)
 | [],b,ops,lo,e=>bt e<|⟨lo,fun Y Y=>rfl,fun Y h=>absurd rfl h,fun Y Y Y Y=>rfl⟩
 |v::l,b,ops,lo,e=>by
  refine an (ah (show aj (mQ v) (fun j=>bg (and (Nat.blt b j) (Nat.blt j 4096)) (aj ((gH lo t n u).obj j) fun o=>dR o none fun rs Y=>aj (BX (gH lo t n u) l j) fun r=>some (.fl (bC rs)::r)))=some ops from e)) fun j e1 e=>?_;obtain rfl:=tZ e1;refine xA (aW e) fun e2 e=>xA (aX e2) fun b1 b2=>an (ah e) fun o e3 e=>dy (vQ e) fun rs c ρ e=>?_;subst ρ;refine an (ah e) fun r e4 e=>bt e ?_;have j4:=iz b2;have bj:=iz b1;rw [jY j4] at e3;have up:∀i,i≠j->bD lo j .gone i=lo i:=fun i hi=>by refine(?_ :@Bool.rec (fun Y=>Option aB) (lo i) _ (Nat.beq i j)=_);exact J (natE.f hi) rfl
  refine bP (wB (lo:=bD lo j .gone) (pF e4 fun i hi h4=>by(exact J (jY h4)<|J (jY h4)<|J (up i (Nat.ne_of_gt hi)) rfl))) fun lo2 h1 h2 h3=>?_;refine⟨lo2,fun i hi=>?_,fun i hi=>?_,fun t n u k=>?_⟩
  ·exact J (h1 i (ai 0x1c50010061c0041185080003 rfl bj hi))<|J (up i (fun e=>ai 0x61c00451470010061400410030030c0183 rfl bj hi e)) rfl
  ·by_cases c:i=j
   ·subst c;exact⟨.head _,_,_,e3⟩
   ·rw [<-up i c] at hi;exact x5 (h2 i hi) fun g1 rs n g2=>⟨.tail _ g1,rs,n,aQ (up i c)<|g2⟩
  ·refine(?_ :@Option.rec aB (fun Y=>KX) none (fun o=>dR o none fun rs Y=>nW l ((gH lo t n u).set j .gone) fun vs h=>k (.fl (bC rs)::vs) h) ((gH lo t n u).obj j)=_);refine J (jY j4)<|J e3<|J (Kz j4) ?_;exact h3 _ _ _ _
structure Made(lo:Nat->Option aB)(wr pg:V)(os cs cols:List V):Prop where
 pr:∃p o rs c cl pf,pg=.ref p/\p < 4096/\lo p=some (.inst cl pf)/\aL Nat.beq pf 7565423=some (.ref o)/\7 < o/\o < 4096/\lo o=some (.list rs c)/\(∀t n u,BX (gH lo t n u) (bC rs) o=some os)/\
  ∃w cl2 wf tb cl3 tf x is m,wr=.ref w/\w < 4096/\lo w=some (.inst cl2 wf)/\aL Nat.beq wf 9146654716209542448838493892201=some (.fl cs)/\aL Nat.beq wf 435610083700=some (.ref tb)/\tb < 4096/\lo tb=some (.inst cl3 tf)/\aL Nat.beq tf 32481190093287017=some (.ref x)/\x < 4096/\lo x=some (.list is m)/\m=is.length/\(x≠o/\V.ref x ∉ rs)/\∀t n u,li (gH lo t n u) (bC is)=some cols
theorem A_{k:List (Nat×V)->KX}(e:MT h v k=some r):∃i c fs,v=.ref i/\i < 4096/\h.obj i=some (.inst c fs)/\k fs=some r:=by
 refine Or.elim (iA e) (fun ρ=>?_) fun e=>?_
 ·exact aI ρ fun i c fs e1 e2 e=>xA (eA e) fun e3 e=>⟨i,c,fs,e1,iz e3,e2,e⟩
 ·exact nn e
theorem Ey:∀{l:List V},Gy x l=true->V.ref x ∉ l
 | [],_=>fun h=>nomatch h
 |v::l,e=>fun h=>by
  have e:@Option.rec Nat (fun Y=>Bool) false (fun j=>@Bool.rec (fun Y=>Bool) (Gy x l) false (Nat.beq j x)) (mQ v)=true:=e;refine mc h (fun ρ=>?_) fun h=>?_
  ·subst ρ;have e:@Bool.rec (fun Y=>Bool) (Gy x l) false (Nat.beq x x)=true:=e;obtain e:=(Nat.beq_refl _)▸e;exact d_ e
  ·refine Ey ?_ h
   cases q:mQ v with
   |none=>obtain e:=q▸e;exact d_ e
   |some j=>
    rw [q] at e;replace e:@Bool.rec (fun Y=>Bool) (Gy x l) false (Nat.beq j x)=true:=e;refine fE (Nat.beq j x) (fun q2=>?_) fun q2=>?_
    ·rw [q2] at e;exact d_ e
    ·rw [q2] at e;exact e
theorem KH(e:h'.obj i=h.obj i):bO h' (.ref i) f=bO h (.ref i) f:=by refine(?_ :@Option.rec aB (fun Y=>Option V) none _ (h'.obj i)=@Option.rec aB (fun Y=>Option V) none _ (h.obj i));exact J e rfl
theorem sV:∀{l cols:List V},li h l=some cols->(∀i,V.ref i∈l->i < 4096->h'.obj i=h.obj i)->li h' l=some cols
 | [],cols,e,_=>e
 |v::l,cols,e,q=>by refine an (ah (show aj (mQ v) (fun j=>bg (Nat.blt j 4096) (aj (bO h v 32491038722256739) fun c=>aj (li h l) fun r=>some (c::r)))=some cols from e)) fun j e1 e=>?_;obtain rfl:=tZ e1;refine xA (aW e) fun e2 e=>an (ah e) fun c e3 e=>an (ah e) fun r e4 e=>bt e<|(?_ :bg (Nat.blt j 4096) (aj (bO h' (.ref j) 32491038722256739) fun c=>aj (li h' l) fun r=>some (c::r))=_);(refine J e2<|J (KH (q j (.head _) (iz e2)))<|J e3<|J (sV e4 fun i hi=>q i (.tail _ hi)) ?_);rfl
theorem OB{v:V}{os cs cols:List V}{lo0:Nat->Option aB}{a b:Nat}{t0:Tr}{u0:List Nat}(e:vw v h=some (.fl [.fl os,.fl cs,.fl cols],⟨lo0,a,t0,b,u0⟩)):∃wr pg ops,v=.fl [wr,pg]/\h.next<=4096/\ops.length<=1900/\dq I8 ops=os/\Made h.obj wr pg ops cs cols/\lo0 0=h.obj 3/\lo0 1=h.obj 5:=by
 refine an (aZ e) fun l e1 f1=>?_;obtain rfl:=zd e1;clear e e1
 match l,f1 with
 | [wr,pg],f1=>
  cases h with|mk lo b' t n u=>
  refine xA (eA f1) fun hn f2=>?_;clear f1;refine eK (A_ f2) fun p c1 pf ρ p4 h1 f3=>J ρ ?_;clear f2;refine an (aZ f3) fun o h2 f4=>?_;clear f3;refine Or.elim (gL f4) (fun ρ=>?_) fun f5=>?_
  ·obtain⟨o,rs,m,rfl,h3,f5⟩:=ρ;clear f4;refine xA (eA f5) fun h4 f6=>?_;clear f5;refine xA (aX h4) fun h4 h5=>an (aZ f6) fun ops h6 f6'=>?_;clear f6;refine xA (eA f6') fun h19 f7=>?_;clear f6';refine eK (A_ f7) fun w c2 wf ρ w4 h7 f8=>?_;subst ρ;clear f7;refine an (aZ f8) fun ic h8 f9=>an (aZ f9) fun cs' h9 g1=>?_;obtain rfl:=zd h9;clear f8 f9 h9;refine an (aZ g1) fun tb h10 g2=>?_;clear g1;refine eK (A_ g2) fun tb c3 tf ρ t4 h11 g3=>?_;subst ρ;clear g2;refine an (aZ g3) fun x h12 g4=>?_;clear g3;refine Or.elim (gL g4) (fun ρ=>?_) fun g5=>?_
   ·obtain⟨x,is,m',rfl,h13,g5⟩:=ρ;clear g4;refine xA (eA g5) fun h14 g6=>?_;clear g5;refine xA (aX h14) fun h14 h15=>xA (aX h14) fun h14 h16=>an (aZ g6) fun cols' h17 g7=>?_;injection g7 with g7
    injection g7 with e3 e4
    injection e3 with e3
    injection e3 with e5 e3
    injection e3 with e6 e3
    injection e3 with e7 e3
    injection e5 with e5
    injection e6 with e6
    injection e7 with e7
    subst e6 e7;injection e4 with e4 _ _ _ _
    have ni:=Ey h15;refine⟨_,_,ops,rfl,Nat.le_of_ble_eq_true hn,by refine aQ (aw _)<|QG h19,e5,⟨_,o,rs,m,_,_,rfl,p4,h1,h2,iz h4,iz h5,h3,fun t n u=>pF h6 fun i hi h4=>jY h4,w,_,_,tb,_,_,x,is,m',rfl,w4,h7,h8,h10,t4,h11,h12,iz h14,h13,(QT h16).trans (aw _),⟨fun q=>ni (q▸ .head _),fun q=>ni (.tail _ q)⟩,fun t n u=>sV h17 fun i hi h4=>jY h4⟩,?_,?_⟩
    ·exact(congrFun e4 0).symm
    ·exact(congrFun e4 1).symm
   ·exact nn g5
  ·exact nn f5
end
section
variable{es:List (Int×V)}
theorem oU(e:h.obj i=some o)(n:β)(k:Nat->aB->β):CG h (.ref i) n k=k i o:=by refine(?_ :@Option.rec aB (fun Y=>β) n (k i) (h.obj i)=_);exact J e rfl
theorem hX(e:h.obj i=some o)(n:β)(k:Nat->List V->Nat->β):hL h (.ref i) n k=dR o n (k i):=oU e _ _
theorem dk(e:h.obj i=some o)(n:β)(k:Nat->List (Int×V)->Nat->β):iD h (.ref i) n k=oI o n (k i):=oU e _ _
theorem k7(e:h.obj i=some o)(n:β)(k:Nat->List (Nat×V)->Nat->β):rZ h (.ref i) n k=oL o n (k i):=oU e _ _
theorem lS(e:h.obj i=some o)(n:β)(k:Nat->Nat->List (Nat×V)->β):ip h (.ref i) n k=yi o n (k i):=oU e _ _
theorem iM(e:h.obj i=some o):jR h (.ref i)=dR o none fun rs Y=>some (bC rs):=by refine(?_ :aj (h.obj i) _=_);refine J e ?_;rfl
theorem G6(e:h.obj i=some o):gV h (.ref i)=dR o none fun rs Y=>some (bC rs):=by refine(?_ :aj (h.obj i) _=_);refine J e ?_;rfl
theorem A1(e:h.obj i=some (.dI es ep))(K:Nat->It->Hp->KX):bR h (.ref i) K=K es.length (.d (.ref i) 0 es.length ep) h:=by delta bR;refine J (hX e _ _)<|J (iM e) ?_;refine(?_ :iD h (.ref i) (gi h (.ref i) none fun i up l cs=>K l (.g up cs) (h.set i .gone)) (fun Y es ep=>K (aq es) (.d (.ref i) 0 (aq es) ep) h)=_);refine J (dk e _ _)<|(?_ :K (aq es) (.d (.ref i) 0 (aq es) ep) h=_);exact J (aw _) rfl
theorem CT(e:h.obj i=some (.dI es ep))(h':Hp):be h (.ref i) h'=h':=by delta be;refine J (hX e _ _)<|(?_ :gi h (.ref i) h' (fun i up l cs=>h'.set i (.rows up l cs))=h');exact oU e _ _
theorem pM(e:h.obj i=some (.dI es ep))(k:Int):aR h (.ref i) (.int k)=aL iE es k:=by delta aR;refine J (hX e _ _)<|J (iM e) ?_;refine(?_ :aj (iD h (.ref i) _ _) _=_);refine J (dk e _ _) ?_;rfl
end
noncomputable def Qh:X:=.comp false [] true [435459026032,2037169923880594992995,488440483899934900446564] (.u (.attr 32491038722256739) (.b .sub (.u (.attr 32481190093287017) (.var 435610083700)) (.var 29793))) (.val (.bool true)) (.var 435459026032)
noncomputable def Pc:X:=.b .sub (.b .sub (.var 1937207154) (.var 7955819)) (.var 435459026032)
noncomputable def OA:X:=.comp false [7955819,1937207154] false [435459026032] (.var 126879296220272) (.val (.bool true)) Pc
noncomputable def O4:X:=.c (.blt 6) (.cons (.b (.bin .Add) OA (.c (.lst false) (.cons (.var 7955819) .nil))) .nil)
noncomputable def OX:X:=.comp true [126879296220272,1937207154] false [7955819] (.var 1937207154) (.val (.bool true)) O4
def M2(a b c:V):Loc:=ae (ae (ae (fun Y=>none) 435610083700 a) 1937207154 b) 29793 c
section
variable{O:CK}
theorem P7(a b c:V):aa O (.fn 48) [a,b,c] h k=bS O Qh (M2 a b c) h fun v h=>bS O OX (ae (M2 a b c) 126879296220272 v) h k:=by kernel_rfl
theorem L3(a b c:V):bS O (.u (.attr 32491038722256739) (.b .sub (.u (.attr 32481190093287017) (.var 435610083700)) (.var 29793))) (M2 a b c) h k=ag (bO h a 32481190093287017) fun x=>ag (aR h x c) fun y=>ag (bO h y 32491038722256739) fun z=>k z h:=by kernel_rfl
theorem Ot(m:Loc):bS O O4 m h k=bS O OA m h fun v h=>ag (m 7955819) fun y=>ag (cm h v (.fl [y])) fun z=>eV 6 z h k:=by kernel_rfl
theorem NH(m:Loc):bS O Pc m h k=ag (m 1937207154) fun r=>ag (m 7955819) fun y=>ag (aR h r y) fun w=>ag (m 435459026032) fun p=>ag (aR h w p) fun v=>k v h:=by kernel_rfl
def Ob(v:V):V:=@Option.rec (List V) (fun Y=>V) v (fun l=>wN (lN l 0)) (iJ v)
theorem ke(l:List α):l.filter (fun Y=>true)=l:=List.filter_eq_self.mpr fun Y Y=>rfl
theorem iP(K:Nat->It->Hp->KX):bR h (.fl xs) K=K xs.length (.l xs) h:=by refine(?_ :K (aq xs) (.l xs) h=_);exact J (aw _) rfl
theorem M_(e:h.obj i=some (.dI es ep)){cols:List Nat}(m1:m 7955819=some (.int k0))(m2:m 1937207154=some (.ref i))(m3:m 126879296220272=some (.fl (cols.map vi)))(hr:aL iE es k0=some (aH r))(hc:∀p∈cols,p < 4)(hl:cols.length<=100):
  bS O OA m h k=k (.fl (cols.map fun p=>ov (r.col p))) h:=by
 obtain fk:fL m [7955819,1937207154]=some [(7955819,.int k0),(1937207154,.ref i)]:=by refine(?_ :aj (m 7955819) (fun v=>aj (aj (m 1937207154) fun v=>aj (some []) fun r=>some ((1937207154,v)::r)) fun r=>some ((7955819,v)::r))=_);(refine J m1<|J m2 ?_);rfl
 refine jh.trans ((gQ (p:=fun Y=>true) (f:=fun v=>@Option.rec Int (fun Y=>V) V.none (fun p=>ov (r.col p.toNat)) (vInt v)) (P:=pP (dJ [(7955819,.int k0),(1937207154,.ref i)]) 435459026032) (a:=.fl (cols.map vi)) (fun k=>?_) fk (fun K=>iP K) rfl (pi _) (QR _) (J (QJ _)<|ai 0x6410500100000ea60105040001 rfl hl) kx fun x hx=>?_).trans ?_)
 ·refine(?_ :ag (m 126879296220272) _=_);refine J m3 ?_;rfl
 ·refine mW (List.mem_map.mp hx) fun p hp=>w9 (fun k=>rfl) fun Y k=>(NH _).trans<|(?_ :ag (aR h (.ref i) (.int k0)) (fun w=>ag (aR h w (vi p)) fun v=>k v h)=_);refine J (pM e _)<|J hr<|J ab ?_
  obtain this:∀p,p < 4->aR h (aH r) (vi p)=some (ov (r.col p)):=fun p hp=>by
   match p,hp with
   |0,_|1,_|2,_|3,_=>rfl
   |n+4,hp=>lia
  refine J (this p (hc p hp)) ?_;rfl
 ·(refine J (ke _)<|J QZ ?_);rfl
theorem jB{T:Tb}{e:Int×bz}(nd:(T.map (·.1)).Nodup)(he:e∈T):T.lookup e.1=some e.2:=by
 induction T with
 |nil=>exact nomatch he
 |cons a T ih=>
  rw [List.map_cons,List.nodup_cons] at nd;refine J List.lookup_cons<|pQ he ?_ fun he=>?_
  ·exact J (beq_self_eq_true _) rfl
  ·exact J (show(e.1 == a.1)=false from beq_eq_false_iff_ne.mpr fun q=>nd.1 (q▸List.mem_map.mpr ⟨e,he,rfl⟩))<|ih nd.2 he
theorem eS(k:Int):∀T:Tb,(T.map fun e=>(e.1,aH e.2)).lookup k=(T.lookup k).map aH
 | []=>rfl
 |a::T=>by
  refine J QV<|J List.lookup_cons<|J List.lookup_cons ?_;refine rt (k == a.1) ?_ ?_
  ·rfl
  ·exact eS k T
theorem Gk{T:Tb}{x:Ix}{tb ix y:V}{at':Nat}(e:h.obj i=some (.dI (T.map fun e=>(e.1,aH e.2)) ep))(nd:(T.map (·.1)).Nodup)(hT:T.length<=1000)(hc:∀p∈x.cols,p < 4)(hl:x.cols.length<=100)(a1:bO h tb 32481190093287017=some ix)(a2:aR h ix (vi at')=some y)(a3:bO h y 32491038722256739=some (y8 x)):
  aa O (.fn 48) [tb,.ref i,vi at'] h k=dt h (.list (T.map fun e=>aV (bc x e.1 e.2)).reverse T.length) k:=by
 have tl:∀e∈T,T.lookup e.1=some e.2:=fun e he=>jB nd he;obtain lk:∀e∈T,aL iE (T.map fun e=>(e.1,aH e.2)) e.1=some (aH e.2):=fun e he=>by(refine J (dY _ _)<|J (eS _ _)<|J (tl e he) ?_);rfl
 refine(P7 _ _ _).trans (jh.trans ((gQ (p:=fun Y=>true) (f:=Ob) (P:=fun Y=>True) (a:=y8 x) (fun k=>(L3 _ _ _).trans ?_) rfl (fun K=>iP K) rfl (pi _) (QR _) (J (QJ _)<|ai 0x6410500100000ea60105040001 rfl hl) trivial fun v hv m Y=>?_).trans ?_))
 ·(refine J a1<|J ab<|J a2<|J ab<|J a3 ?_);rfl
 ·exact an (List.mem_map.mp hv) fun p hp ρ=>aQ ρ<|⟨_,rfl,trivial,fun k=>rfl,fun Y k=>rfl⟩
 ·refine J (ke _)<|J QZ ?_;refine(?_ :bS O OX (ae (M2 tb (.ref i) (vi at')) 126879296220272 (.fl (x.cols.map vi))) h k=_);refine jh.trans ((gQ (p:=fun Y=>true) (f:=fun v=>@Option.rec Int (fun Y=>V) V.none (fun k0=>@Option.rec bz (fun Y=>V) V.none (fun r=>aV (bc x k0 r)) (T.lookup k0)) (vInt v)) (P:=pP (dJ [(126879296220272,.fl (x.cols.map vi)),(1937207154,.ref i)]) 7955819) (fun k=>rfl) rfl (A1 e) (CT e h) (Er e _ 0 rfl) (J (QJ _)<|QR _) (by(refine J (QJ _)<|J List.drop_zero<|J (QJ _) ?_);exact ai 0x3e810500100000ea60105040001 rfl hT) kx fun v hv=>?_).trans ?_)
  ·rw [List.drop_zero,List.map_map] at hv;refine mW (List.mem_map.mp hv) fun e0 he=>w9 (fun k=>rfl) fun Y k=>(Ot _).trans ((M_ e rfl rfl rfl (lk e0 he) hc hl).trans ?_);refine(?_ :ag (cm h (.fl (x.cols.map fun p=>ov (e0.2.col p))) (.fl [.int e0.1])) (fun z=>eV 6 z h k)=_);obtain a1:cm h (.fl (x.cols.map fun p=>ov (e0.2.col p))) (.fl [.int e0.1])=some (.fl ((bc x e0.1 e0.2).map ov)):=by refine(?_ :bg (Nat.ble (Nat.add (aq (x.cols.map fun p=>ov (e0.2.col p))) 1) 60000) (some (V.fl (DM (x.cols.map fun p=>ov (e0.2.col p)) [.int e0.1])))=_);(refine J (aw _)<|J (QJ _)<|J (fz (by exact ai 0x19041400400003a9804043140040001 rfl hl)) ?_;refine J (qi _ _)<|J dd ?_);delta bc;(refine J List.map_append<|J QZ ?_);rfl
   refine J a1<|J ab ?_;refine(?_ :bg (Nat.ble (aq ((bc x e0.1 e0.2).map ov)) 60000) (k (aV (bc x e0.1 e0.2)) h)=_);(refine J (bT (by delta bc;(refine J (QJ _)<|J QI<|J (QJ _) ?_);refine(?_ :x.cols.length+1<=_);lia)) ?_;refine J dd ?_);refine(?_ :_=k (@Option.rec bz (fun Y=>V) V.none (fun r=>aV (bc x e0.1 r)) (T.lookup e0.1)) h);exact J (tl e0 he) rfl
  ·refine J (ke _)<|J List.drop_zero<|J QZ<|J QZ<|J (QJ _)<|J (QJ _) ?_;refine(?_ :dt h (.list _ _) k=_);congr 2;refine congrArg List.reverse (List.map_congr_left fun e0 he=>?_);refine(?_ :@Option.rec bz (fun Y=>V) V.none (fun r=>aV (bc x e0.1 r)) (T.lookup e0.1)=_);exact J (tl e0 he) rfl
end
noncomputable def k9(n:Nat)(s:S):S:=@Nat.rec (fun Y=>S) s (fun Y ih=>dm ih) n
def gg(n:Nat):S:=dZ (k9 n (lE 49))
section
variable{O:CK}
def MI(pl rw wr pg wy l mn kd:V):Loc:=ae (ae (ae (ae (ae (ae (ae (ae (ae (fun Y=>none) 1851878512 pl) 1937207154 rw) 125780070330999 wr) 30787916450984560 pg) 7954807 wy) 6649188 (.fl [l,mn,kd])) 491328397676 l) 2037277037 mn) 1684957547 kd
def oi:FR:=@Option.rec FR (fun Y=>FR) ⟨[],.bad⟩ (fun r=>r) (tn 49)
theorem q0(pl rw wr pg wy l mn kd:V)(T:S):bG O ⟨oi.ps,.seq (dZ oi.b) T⟩ [pl,rw,wr,pg,wy,.fl [l,mn,kd]] h k=aF O T (MI pl rw wr pg wy l mn kd) h (fun Y h=>k .none h) (fun Y Y=>none) k:=by kernel_rfl
theorem CS:oi=⟨oi.ps,.seq (dZ oi.b) (.seq (gg 1) (.seq (gg 2) (.seq (gg 3) (.seq (gg 4) (.seq (gg 5) (.seq (gg 6) (.seq (gg 7) (.seq (gg 8) .skip))))))))⟩:=by kernel_rfl
def FL(es:List (Int×V)):Tr:=.nd [(4096,.dI [] 0)] (.nd [(4098,.dI [] 0)] .nl (lf 4100 (.dL [(1936156018,.ref 4096),(1937207154,.ref 4097),(1937335659,.ref 4098),(29793,.ref 4099),(32481117229639779,.int 0)] 5))) (.nd [(4097,.dI es (aq es))] .nl (lf 4099 (.dI [] 0)))
theorem q1(pl wr pg wy l mn kd:V)(lo:Nat->Option aB)(es:List (Int×V))(ep:Nat)(u:List Nat):aF O (gg 1) (MI pl (.ref 3) wr pg wy l mn kd) (gH (bD lo 3 (.dI es ep)) .nl 4096 u) kn kb kr=bg (Nat.ble (aq es) 8) (kn (ae (MI pl (.ref 3) wr pg wy l mn kd) 435744240755 (.ref 4100)) (gH (bD lo 3 (.dI es ep)) (FL es) 4101 u)):=by kernel_rfl
def M0(O:CK)(b:S)(m:Loc)(h:Hp)(kn:KL)(kr:KV):KX:=ag (m 125780070330999) fun w=>ag (bO h w 9146654716209542448838493892201) fun ic=>eV 0 ic h fun n h=>eV 1 n h fun a h=>bR h a fun n t h₁=>dw (hU O (.var false 29793)) (aF O b) n t m h₁ (fun m h'=>kn m (be h a h')) fun v h'=>kr v (be h a h')
theorem q2:aF O (gg 2) m h kn kb kr=M0 O (ja (gg 2)) m h kn kr:=by kernel_rfl
theorem PE:aF O (ja (gg 2)) m h kn kb kr=ag (m 125780070330999) fun w=>ag (bO h w 435610083700) fun tb=>ag (m 1937207154) fun rw=>ag (m 29793) fun a=>O (.fn 48) [tb,rw,a] h fun v h=>ag (m 435744240755) fun st=>ag (aR h st (.lit 1937335659)) fun d=>ag (m 125780070330999) fun w=>ag (bO h w 9146654716209542448838493892201) fun ic=>ag (m 29793) fun a=>ag (aR h ic a) fun c=>ag (eP h d c v) fun h=>kn m h:=by kernel_rfl
theorem q3:aF O (gg 3) m h kn kb kr=ag (m 435744240755) fun st=>ag (m 30787916450984560) fun p=>ag (bO h p 7565423) fun o=>O (.fn 47) [st,o] h fun v h=>kn (ae m 1684828020 v) h:=by kernel_rfl
noncomputable def eJ:aB:=.dL [(500136108641,.int 0),(28538242730059122,.int 0),(7738135660106379122,.int 1),(1818845542,.int 2)] 4
theorem q4:aF O (gg 4) m h kn kb kr=dt h eJ fun d h=>ip h d (ay (j0 2 d h) (ag (m 7954807) fun w=>IM 2 d w .none h fun v h=>kn (ae m 121424789660513 v) h) none) (fun Y c fs=>ag (jO c 7628135) fun g=>ag (m 7954807) fun w=>O (.fn g) [d,w,.none] h fun v h=>kn (ae m 121424789660513 v) h):=by kernel_rfl
def z5(m:Loc)(h:Hp)(kn:KL)(kr:KV)(t x:V):KX:=ag (ba h .NotEq t x) fun c1=>ay (xor c1 true) (ag (m 435744240755) fun st=>ag (aR h st (.lit 1937207154)) fun r=>ag (m 491328397676) fun l=>ag (ba h .NotEq r l) fun c2=>ay c2 (kr (.bool false) h) (kn m h)) (ay c1 (kr (.bool false) h) (kn m h))
theorem q5:aF O (gg 5) m h kn kb kr=ag (m 1684828020) fun t=>ag (m 1684957547) fun kd=>ag (ba h .Is kd .none) fun b=>ay b (z5 m h kn kr t (.fl [.none,.none])) (ag (m 121424789660513) fun a=>ag (m 1684957547) fun kd=>z5 m h kn kr t (.fl [a,kd])):=by kernel_rfl
def z6(m:Loc)(h:Hp)(kn:KL)(kr:KV)(t x:V):KX:=ag (ba h .NotEq t x) fun c=>ay c (kr (.bool false) h) (kn m h)
theorem q6:aF O (gg 6) m h kn kb kr=ag (m 435744240755) fun st=>ag (aR h st (.lit 32481117229639779)) fun ch=>ag (m 1684957547) fun kd=>ag (ba h .Is kd .none) fun b=>ay (xor b true) (ag (m 7954807) fun w=>ag (ba h .Eq w (.lit 1818845542)) fun b2=>ay b2 (ag (m 2037277037) fun x=>z6 m h kn kr ch x) (z6 m h kn kr ch (.int 0))) (ay b (ag (m 2037277037) fun x=>z6 m h kn kr ch x) (z6 m h kn kr ch (.int 0))):=by kernel_rfl
theorem q7:aF O (gg 7) m h kn kb kr=M0 O (ja (gg 7)) m h kn kr:=by kernel_rfl
noncomputable def xR(it:X):X:=.comp false [] false [7955819] it (.val (.bool true)) (.c (.blt 8) (.cons (.var 7955819) .nil))
noncomputable def OW:X:=.c (.fn 48) (.cons (.u (.attr 435610083700) (.var 125780070330999)) (.cons (.var 491328397676) (.cons (.var 29793) .nil)))
theorem Po:aF O (ja (gg 7)) m h kn kb kr=ag (m 435744240755) fun st=>ag (aR h st (.lit 1937335659)) fun d=>ag (m 125780070330999) fun w=>ag (bO h w 9146654716209542448838493892201) fun ic=>ag (m 29793) fun a=>ag (aR h ic a) fun c=>ag (aR h d c) fun ks=>
 bS O (xR (.var 1937335659)) (ae m 1937335659 ks) h fun v1 h=>eV 7 v1 h fun s1 h=>bS O (xR OW) (ae m 1937335659 ks) h fun v2 h=>eV 7 v2 h fun s2 h=>ag (ba h .NotEq s1 s2) fun c=>ay c (kr (.bool false) h) (kn (ae m 1937335659 ks) h):=by kernel_rfl
theorem Qb:bS O OW m h k=ag (m 125780070330999) fun w=>ag (bO h w 435610083700) fun tb=>ag (m 491328397676) fun l=>ag (m 29793) fun a=>O (.fn 48) [tb,l,a] h k:=by kernel_rfl
theorem q8:aF O (gg 8) m h kn kb kr=kr (.bool true) h:=by kernel_rfl
end
section
variable{os cs cols:List V}
def I1(lo:Nat->Option aB)(wr:V)(cs cols:List V):Prop:=∃tb ix:V,∃is:List V,∀t n u,bO (gH lo t n u) wr 9146654716209542448838493892201=some (.fl cs)/\bO (gH lo t n u) wr 435610083700=some tb/\bO (gH lo t n u) tb 32481190093287017=some ix/\
 ∀(i:Nat) c,cols[i]? =some c->∃x,is[i]? =some x/\aR (gH lo t n u) ix (vi i)=some x/\bO (gH lo t n u) x 32491038722256739=some c
theorem on(ha:a < 4096)(e:lo a=some (.inst c fs)):bO (gH lo t n u) (.ref a) f=aL Nat.beq fs f:=by delta bO;refine J (lS ((jY ha).trans e) _ _) ?_;rfl
theorem CQ(e:h.obj a=some (.list rs rs.length))(hl:rs.length<=1000)(q:rs.reverse[i]? =some x):aR h (.ref a) (vi i)=some x:=by have hi:=(List.getElem?_eq_some_iff.mp q).1;rw [List.length_reverse] at hi;delta aR;refine J (hX e _ _)<|(?_ :bg (Nat.ble rs.length 65536) (aj (bg (Nat.blt i rs.length) (some i)) fun n=>lN rs (Nat.sub rs.length (Nat.succ n)))=_);refine J (fz (ai 0x3e8105001000010000105040001 rfl hl))<|J (show Nat.blt i rs.length=true from QH hi) ?_;refine(?_ :lN rs (rs.length - (i+1))=_);refine J (hV _ _)<|aQ q<|J (List.getElem?_reverse hi) ?_;congr 1;exact QF (ai 0x90432001400010810c70090010081801c00401850c0005 rfl (jw _ _) (jw _ _) (jI (ai 0x185001046043140040002 rfl hi))) (ai 0x70432400010892050000420432001801c00401850c0005 rfl (jw _ _) (jI (ai 0x10c6007001007140041185080003 rfl hi (jw _ _))) (jI (ai 0x146001045043040002 rfl hi)))
theorem wp:∀{l cols:List V},li h l=some cols->l.length=cols.length/\∀(i:Nat) c,cols[i]? =some c->∃j,l[i]? =some (.ref j)/\j < 4096/\bO h (.ref j) 32491038722256739=some c
 | [],cols,e=>bt e<|⟨rfl,fun i c q=>by simp at q⟩
 |v::l,cols,e=>by
  refine an (ah (show aj (mQ v) (fun j=>bg (Nat.blt j 4096) (aj (bO h v 32491038722256739) fun c=>aj (li h l) fun r=>some (c::r)))=some cols from e)) fun j e1 e=>?_;obtain rfl:=tZ e1;refine xA (aW e) fun j4 e=>an (ah e) fun c e3 e=>an (ah e) fun r e4 e=>bt e<|xA (wp e4) fun h1 h2=>⟨congrArg Nat.succ h1,fun i d q=>?_⟩
  cases i with
  |zero=>refine bt q ?_;exact⟨j,rfl,iz j4,e3⟩
  |succ i=>exact h2 i d q
theorem AR(M:Made lo wr pg os cs cols)(hc:cols.length<=3):∃o lo2,(∀t n u,bO (gH lo t n u) pg 7565423=some (.ref o))/\(∀k t n u,um (gH lo t n u) (.ref o) k=k (.fl os) (gH lo2 t n u))/\(∀j,j<=7->lo2 j=lo j)/\I1 lo wr cs cols/\I1 lo2 wr cs cols:=by
 obtain⟨p,o,rs,c,cl,pf,rfl,p4,h1,h2,o7,o4,h3,h4,w,cl2,wf,tb,cl3,tf,x,is,m,rfl,w4,h5,h6,h7,t4,h8,h9,x4,h10,rfl,⟨h11,h12⟩,h13⟩:=M;have up:∀i,i≠o->bD lo o .gone i=lo i:=fun i hi=>by refine(?_ :@Bool.rec (fun Y=>Option aB) (lo i) _ (Nat.beq i o)=_);exact J (natE.f hi) rfl
 refine bP (wB (lo:=bD lo o .gone) (t:=.nl) (n:=0) (u:= []) (pF (h4 .nl 0 []) fun i hi h4=>by(exact J (jY h4)<|J (jY h4)<|J (up i (Nat.ne_of_gt hi)) rfl))) fun lo2 g1 g2 g3=>?_
 have keep:∀i,(∀rs n,lo i≠some (.list rs n))\/(i≠o/\V.ref i ∉ rs)->lo2 i=lo i:=fun i hi=>by
  have no:i≠o:=fun q=>hi.elim (fun z=>z _ _ (q▸h3)) fun z=>z.1 q;by_cases c:lo2 i=bD lo o .gone i
  ·exact J c<|J (up i no) rfl
  ·refine x5 (g2 i c) fun f1 rs' n' f2=>?_;rw [bq] at f1;exact hi.elim (fun z=>absurd ((up i no).symm.trans f2) (z _ _)) fun z=>absurd (List.mem_reverse.mp f1) z.2
 obtain inst:∀i cl fs,lo i=some (.inst cl fs)->lo2 i=some (.inst cl fs):=fun i cl fs e=>(keep i (.inl fun rs n q=>by rw [e] at q;exact nomatch q)).trans e
 have wf':∀lo':Nat->Option aB,(∀i cl fs,lo i=some (.inst cl fs)->lo' i=some (.inst cl fs))->lo' x=lo x->I1 lo' (.ref w) cs cols:=fun lo' q1 q2=>by
  refine⟨.ref tb,.ref x,is.reverse,fun t n u=>⟨(on w4 (q1 _ _ _ h5)).trans h6,(on w4 (q1 _ _ _ h5)).trans h7,(on t4 (q1 _ _ _ h8)).trans h9,fun i d hd=>?_⟩⟩;refine xA (wp (h13 .nl 0 [])) fun k1 k2=>?_;rw [bq] at k1 k2;refine bP (k2 i d hd) fun j f1 f2 f3=>?_;obtain hl:is.length<=1000:=by rw [List.length_reverse] at k1;exact ai 0x1850010830c60010000003e8105080002 rfl hc k1
  refine⟨_,f1,CQ ((jY x4).trans (q2.trans h10)) hl f1,?_⟩
  have e0:∃cl fs,lo j=some (.inst cl fs):=by
   refine Or.elim (iA (show ip (gH lo .nl 0 []) (.ref j) none (fun Y Y fs=>aL Nat.beq fs 32491038722256739)=some d from f3)) (fun ρ=>?_) fun q=>?_
   ·refine aI ρ fun i' cl fs e1 e2 Y=>?_;cases e1;exact⟨cl,fs,(jY f2).symm.trans e2⟩
   ·exact nn q
  refine ij e0 fun cl fs e0=>?_;rw [on f2 e0] at f3;exact J (on f2 (q1 _ _ _ e0))<|f3
 refine⟨o,lo2,fun t n u=>(on p4 h1).trans h2,fun k t n u=>?_,fun j hj=>?_,wf' lo (fun Y Y Y e=>e) rfl,wf' lo2 inst (keep x (.inr ⟨h11,h12⟩))⟩
 ·delta um;refine J (hX ((jY o4).trans h3) _ _)<|(?_ :nW (bC rs) ((gH lo t n u).set o .gone) _=_);exact J (Kz o4)<|g3 t n u _
 ·exact J (g1 j (ai 0x1c31402001870c01c1185087002 rfl o7 hj))<|J (up j (fun e=>ai 0x51800451c31800401470c00410030030c0182 rfl o7 hj e)) rfl
end
section
variable{O:CK}{P:Nat->Loc->Hp->Prop}
theorem vC:∀(n i:Nat) (m:Loc) (h:Hp),(∀j,i<=j->j < i+n->∀m h,P j m h->∃m' h',P (j+1) m' h'/\∀kn kb kr,as m h (vi j) (fun m h=>bd m h kn kb kr)=kn m' h')->P i m h->∃m' h',P (i+n) m' h'/\∀kn kr,dw as bd n (.r i (i+n:Nat)) m h kn kr=kn m' h'
 |0,i,m,h,_,p=>⟨m,h,p,fun kn kr=>by
  refine(?_ :@Bool.rec (fun Y=>KX) (kn m h) none (decide ((i:Int) < ((i+0:Nat):Int)))=_);exact J (QP (by lia)) rfl⟩
 |n+1,i,m,h,st,p=>by
  refine dy (st i (QR _) (lin 0x10c6005005000042 rfl _ _) m h p) fun m1 h1 p1 e1=>dy (vC n (i+1) m1 h1 (fun j a b=>st j (ai 0x1810c5000040185040002 rfl a) (by exact ai 0x70431800050010410c7006005040043 rfl b)) p1) fun m2 h2 p2 e2=>⟨m2,h2,by refine J (show i+(n+1)=i+1+n by exact QF (lin 0x1810c5000043180140000002 rfl _ _) (lin 0x431801401810c5000000002 rfl _ _))<|p2,fun kn kr=>?_⟩
  refine(?_ :@Bool.rec (fun Y=>KX) (kn m h) (as m h (vi i) fun m h=>bd m h (fun m h=>dw as bd n (.r (Int.add i 1) ((i+(n+1):Nat):Int)) m h kn kr) kn kr) (decide ((i:Int) < ((i+(n+1):Nat):Int)))=_);refine J (QO (by lia))<|(e1 _ _ _).trans ?_;(refine aQ (e2 kn kr)<|J (show i+(n+1)=i+1+n by exact QF (lin 0x1810c5000043180140000002 rfl _ _) (lin 0x431801401810c5000000002 rfl _ _)) ?_);rfl
theorem EM(hw:m 125780070330999=some wr)(ha:bO h wr 9146654716209542448838493892201=some (.fl cs))(hl:cs.length<=1000):M0 O b m h kn kr=dw (hU O (.var false 29793)) (aF O b) cs.length (.r (0:Nat) (0+cs.length:Nat)) m h kn kr:=by delta M0;refine J hw<|J ab<|J ha<|J ab ?_;refine(?_ :bg (Nat.ble (aq cs) 65536) (bg (decide (-1000000000000<=((aq cs:Nat):Int)/\((aq cs:Nat):Int)<=1000000000000)) (bg (jx 0 ((aq cs:Nat):Int)) (dw (hU O (.var false 29793)) (aF O b) (Int.toNat (Int.sub ((aq cs:Nat):Int) 0)) (.r 0 ((aq cs:Nat):Int)) m h kn kr)))=_);(refine J (bT (ai 0x3e8105001000010000105040001 rfl hl))<|J (aw _)<|J dd<|J (QO (by lia))<|J dd<|J (show jx 0 ((cs.length:Nat):Int)=true from QO (by lia))<|J dd<|J (show Int.toNat (Int.sub ((cs.length:Nat):Int) 0)=cs.length by refine(?_ :Int.toNat ((cs.length:Int) - 0)=_);lia) ?_;refine J (Nat.zero_add _) ?_);rfl
end
structure Gz(m:Loc)(wr pg wy mn kd:V):Prop where
 wr:m 125780070330999=some wr
 rw:m 1937207154=some (.ref 3)
 pg:m 30787916450984560=some pg
 wy:m 7954807=some wy
 lt:m 491328397676=some (.ref 5)
 mn:m 2037277037=some mn
 kd:m 1684957547=some kd
 st:m 435744240755=some (.ref 4100)
def ON(nk:Nat)(lo:Nat->Option aB)(u:List Nat)(es:List (Int×V))(K:Nat->List V):RS where
 lo:=lo
 n:=4101+nk
 u:=u
 rg:= []
 e1:=0
 rw:=es
 e2:=aq es
 kd:=I2 nk
 e3:=nk
 at':= []
 e4:=0
 ch:=.int 0
 e5:=5
 k1:=K 0
 n1:=(K 0).length
 t2:=@Nat.casesOn (fun Y=>Tr) (nk - 1) .nl fun Y=>lf 4102 (.list (K 1) (K 1).length)
 t3:=@Nat.casesOn (fun Y=>Tr) (nk - 2) .nl fun Y=>lf 4103 (.list (K 2) (K 2).length)
def qz(nk:Nat)(lo:Nat->Option aB)(u:List Nat)(es:List (Int×V))(K:Nat->List V):Hp:=@Nat.casesOn (fun Y=>Hp) nk (gH lo (FL es) 4101 u) fun n=>(ON (n+1) lo u es K).h
section
variable{K:Nat->List V}{O:CK}
theorem KA:∀i,i < 3->dt (qz i lo u es K) (.list (K i) (K i).length) k=k (.ref (4101+i)) ((qz i lo u es K).new (.list (K i) (K i).length))
 |0,_=>by kernel_rfl
 |1,_=>by kernel_rfl
 |2,_=>by kernel_rfl
 |n+3,h=>absurd h (lin 0xc30c3140000101 rfl _)
theorem Fb:∀i,i < 3->eP ((qz i lo u es K).new (.list (K i) (K i).length)) (.ref 4098) (vi (i+1)) (.ref (4101+i))=some (qz (i+1) lo u es K)/\aR ((qz i lo u es K).new (.list (K i) (K i).length)) (.ref 4100) (.lit 1937335659)=some (.ref 4098)
 |0,_=>⟨by kernel_rfl,by kernel_rfl⟩
 |1,_=>⟨by kernel_rfl,by kernel_rfl⟩
 |2,_=>⟨by kernel_rfl,by kernel_rfl⟩
 |n+3,h=>absurd h (lin 0xc30c3140000101 rfl _)
theorem Fk:∀i,i < 4->∃t n,qz i lo u es K=gH lo t n u
 |0,_=>⟨_,_,rfl⟩
 |n+1,_=>⟨_,_,rfl⟩
theorem vz(h:4096<=n):∃t',(gH lo t n u).new o=gH lo t' (n+1) u:=by refine⟨t.put n o (GV (Nat.sub n 4096)),?_⟩;refine(?_ :Hp.up (@Bool.rec (fun Y=>Hp) _ ⟨lo,4096,t.put n o (GV (Nat.sub n 4096)),n,u⟩ (Nat.ble 4096 n))=_);refine J (QH h) ?_;rfl
theorem Ec:∀i,i < 3->∃t n,(qz i lo u es K).new (.list (K i) (K i).length)=gH lo t n u:=fun i hi=>by
 match i,hi with
 |0,_=>exact(vz (by decide)).imp fun t e=>⟨_,e⟩
 |1,_=>exact(vz (n:=4102) (by decide)).imp fun t e=>⟨_,e⟩
 |2,_=>exact(vz (n:=4103) (by decide)).imp fun t e=>⟨_,e⟩
variable{c:fZ}{T:Tb}
noncomputable def xB(c:fZ):List V:=(aG c).map fun x=>vi x.cur
noncomputable def Hn(c:fZ):List V:=(aG c).map y8
def lg(c:fZ)(T:Tb)(i:Nat):List V:=@Option.rec Ix (fun Y=>List V) [] (fun x=>(T.map fun e=>aV (bc x e.1 e.2)).reverse) ((aG c)[i]?)
theorem yv(c:fZ)(e:(aG c)[i]? =some x):x.cur=i+1/\i < 3:=by
 have h3:=(cO c).2.2.1;have hi:=(List.getElem?_eq_some_iff.mp e).1;refine⟨?_,ai 0x1850010430c60010030c5080042 rfl h3 hi⟩;obtain⟨k,p,mo,d⟩:=c
 match i,(show i < 3 by exact ai 0x1850010430c60010030c5080042 rfl h3 hi) with
 |0,_=>cases p<;>cases mo<;>(refine bt e ?_;rfl)
 |1,_=>cases p<;>cases mo<;>first|(refine bt e ?_;rfl)|exact nn (show none=some x from e)
 |2,_=>cases p<;>cases mo<;>first|(refine bt e ?_;rfl)|exact nn (show none=some x from e)
noncomputable abbrev cy(T:Tb):List (Int×V):=T.map fun e=>(e.1,aH e.2)
theorem s_(W:I1 lo wr (xB c) (Hn c))(hi:(aG c)[i]? =some x)(ha:a < 4096)(hr:lo a=some (.dI (cy T) ep))(nd:(T.map (·.1)).Nodup)(hT:T.length<=1000):
  ag (bO (gH lo t n u) wr 435610083700) (fun tb=>aa O (.fn 48) [tb,.ref a,vi i] (gH lo t n u) q)=dt (gH lo t n u) (.list (lg c T i) (lg c T i).length) q:=by
 refine ij W fun tb ix ψ0=>xE ψ0 fun is f=>fi (f t n u) fun Y f2 f3 f4=>bP (f4 i (y8 x) (by delta Hn;(refine J (List.getElem?_map) ?_;refine J hi ?_);rfl)) fun y Y f5 f6=>?_;have ok:=(cO c).1 x (List.mem_of_getElem? hi);refine J f2<|J ab<|J (Gk ((jY ha).trans hr) nd hT ok.co (by obtain this:=ok.le;exact ai 0x20c5001000000064105040001 rfl this) f3 f5 f6) ?_;delta lg;refine J hi<|(?_ :_=dt _ (.list (T.map fun e=>aV (bc x e.1 e.2)).reverse (T.map fun e=>aV (bc x e.1 e.2)).reverse.length) q);exact J QL<|J (QJ _) rfl
theorem K3(F:Gz m wr pg wy mn kd)(W:I1 lo wr (xB c) (Hn c))(hr:lo 3=some (.dI (cy T) ep))(nd:(T.map (·.1)).Nodup)(hT:T.length<=1000):
  ∃m',Gz m' wr pg wy mn kd/\∀kn kb kr,aF (aa O) (gg 2) m (qz 0 lo u es (lg c T)) kn kb kr=kn m' (qz (aG c).length lo u es (lg c T)):=by
 have hl:(xB c).length=(aG c).length:=QJ _;have h3:=(cO c).2.2.1;have ic:∀t n,bO (gH lo t n u) wr 9146654716209542448838493892201=some (.fl (xB c)):=fun t n=>ij W fun Y Y ψ0=>xE ψ0 fun Y f=>(f t n u).1
 obtain⟨m',h',⟨p1,p2⟩,e⟩:=vC (as:=hU (aa O) (.var false 29793)) (bd:=aF (aa O) (ja (gg 2))) (P:=fun j m h=>Gz m wr pg wy mn kd/\h=qz j lo u es (lg c T)) (aG c).length 0 m (qz 0 lo u es (lg c T)) (fun j _ hj m h ⟨f,eh⟩=>by
  refine J eh ?_;have hx:∃x,(aG c)[j]? =some x:=⟨_,List.getElem?_eq_getElem (by exact ai 0x1800c0140041185040042 rfl hj)⟩
  refine xE hx fun x hx=>xA (yv c hx) fun cu j3=>⟨ae m 29793 (vi j),qz (j+1) lo u es (lg c T),⟨⟨f.wr,f.rw,f.pg,f.wy,f.lt,f.mn,f.kd,f.st⟩,rfl⟩,fun kn kb kr=>?_⟩
  refine(?_ :aF (aa O) (ja (gg 2)) (ae m 29793 (vi j)) (qz j lo u es (lg c T)) kn kb kr=_);refine ij (Fk (lo:=lo) (u:=u) (es:=es) (K:=lg c T) j (ai 0x30c50010440c5040041 rfl j3)) fun t n e1=>ij (Ec (lo:=lo) (u:=u) (es:=es) (K:=lg c T) j j3) fun t2 n2 e2=>?_;refine J PE<|J (show ae m 29793 (vi j) 125780070330999=some wr from f.wr)<|J ab<|J (show ae m 29793 (vi j) 1937207154=some (.ref 3) from f.rw)<|J (show ae m 29793 (vi j) 29793=some (vi j) from rfl) ?_;simp only[ab];refine J e1<|J (s_ W hx (by decide) hr nd hT)<|aQ e1<|J (KA j j3)<|J (show ae m 29793 (vi j) 435744240755=some (.ref 4100) from f.st)<|J ab<|J ((Fb j j3).2)<|J ab<|J e2<|J (ic _ _)<|J ab ?_
  (refine J (pG (by exact ai 0xc31800401850010800007d0105080002 rfl hl h3) (show(xB c)[j]? =some (vi (j+1)) by delta xB;(refine J (List.getElem?_map) ?_;refine J hx<|aQ cu ?_);rfl)) ?_;exact J ab<|aQ e2<|J ((Fb j j3).1)<|J ab rfl)) ⟨F,rfl⟩
 rw [Nat.zero_add] at p2;refine aQ p2<|⟨m',p1,fun kn kb kr=>?_⟩;refine J q2<|J (EM F.wr (show bO (qz 0 lo u es (lg c T)) wr 9146654716209542448838493892201=_ from ic _ _) (ai 0xc31800401850010800003e8105080002 rfl hl h3))<|J hl ?_;exact e kn kr
end
section
variable{O:CK}
def dD(o:Option Int):PyData:=@Option.rec Int (fun Y=>PyData) .none (fun i=>.int i) o
def xU(ks:List (Option Int)):Str:=(PyData.tuple (ks.map dD)).shown
def MC (ks:List (Option Int)):Prop:=ks.length<=8/\∀i,some i∈ks->i.natAbs < 1000000000
theorem Ae:∀{ks:List (Option Int)},(∀i,some i∈ks->i.natAbs < 1000000000)->wM (ks.map ov)=some (ks.map dD)
 | [],_=>rfl
 |a::ks,hs=>by
  refine(?_ :aj (Nn (ov a)) (fun i=>aj (wM (ks.map ov)) fun r=>some (i::r))=_);refine J (Ae fun i hi=>hs i (.tail _ hi)) ?_
  cases a with
  |none=>rfl
  |some i=>refine(?_ :aj (bg (decide (i.natAbs < 1000000000)) (some (PyData.int i))) _=_);refine J (QO (hs i (.head _))) ?_;rfl
theorem LO(hs:MC ks)(m:Loc)(e:m 7955819=some (aV ks)):bS O (.c (.blt 8) (.cons (.var 7955819) .nil)) m h k=k (.txt (xU ks)) h:=by refine(?_ :ag (m 7955819) (fun v=>gT 8 [v] h k)=_);refine J e<|(?_ :bg (Nat.ble (aq (ks.map ov)) 8) (aj (wM (ks.map ov)) fun ds=>k (.txt (PyData.tuple ds).shown) h)=_);(refine J (bT (J (QJ _)<|hs.1)) ?_;refine J (Ae hs.2) ?_);rfl
theorem wj:∀l:List Str,mf (l.map V.txt)=some l
 | []=>rfl
 |s::l=>by refine(?_ :aj (some s) (fun i=>aj (mf (l.map V.txt)) fun r=>some (i::r))=_);refine J (wj l) ?_;rfl
theorem vR:∀l:List Str,tV lR (l.map V.txt) (l.map V.txt)=some true
 | []=>rfl
 |s::l=>by refine(?_ :aj (some (W.Fast.sEq s s)) (fun c=>aj (tV lR (l.map V.txt) (l.map V.txt)) fun d=>some (and c d))=_);(refine J (vR l)<|J (W.Fast.sEq_iff.mpr rfl) ?_);rfl
theorem y6(hl:l.length < 60)(k:VH (V×Hp)):eV 7 (.fl (l.map V.txt)) h k=k (.fl ((c9 ug l).map V.txt)) h:=by refine(?_ :aj (mf (l.map V.txt)) (fun ss=>bg (Nat.blt (aq ss) 60) (k (.fl (dq .txt (c9 ug ss))) h))=_);refine J (wj _)<|(?_ :bg (Nat.blt (aq l) 60) _=_);(refine J (aw _)<|J (show Nat.blt l.length 60=true from QH hl)<|J (dz _ _) ?_);rfl
theorem Ia(p:l.Perm l'):ba h .NotEq (.fl ((c9 ug l).map V.txt)) (.fl ((c9 ug l').map V.txt))=some false:=by refine J (kA Ci ((gW l).trans p) (jT Ci l))<|(?_ :aj (@Bool.rec (fun Y=>Option Bool) (some false) (tV lR _ _) (Nat.beq (aq ((c9 ug l').map V.txt)) (aq ((c9 ug l').map V.txt)))) (fun c=>some (not c))=_);(refine J (Nat.beq_refl _)<|J (vR _) ?_);rfl
theorem vL(e:h.obj i=some (.list rs n))(K:Nat->It->Hp->KX):bR h (.ref i) K=K n (.l (bC rs)) (h.set i .gone):=by delta bR;refine J (hX e _ _) ?_;rfl
theorem ux(e:h.obj i=some (.list rs n))(h':Hp):be h (.ref i) h'=h'.set i (.list rs n):=by delta be;refine J (hX e _ _) ?_;rfl
theorem AO{h₀:Hp}{K:List (List (Option Int))}(e1:∀k,bS O it m h₀ k=k (.ref i) h)(e:h.obj i=some (.list (K.map aV).reverse K.length))(hK:K.length<=1000)(hs:∀ks∈K,MC ks):bS O (xR it) m h₀ k=k (.fl ((K.map xU).map V.txt)) ((h.set i .gone).set i (.list (K.map aV).reverse K.length)):=by
 refine jh.trans ((e1 _).trans ?_);refine(?_ :bR h (.ref i) (fun n t h₁=>d8 false [7955819] (bS O (.val (.bool true))) (bS O (.c (.blt 8) (.cons (.var 7955819) .nil))) n t (dJ []) h₁ [] 0 fun rs c h'=>k (.fl (bC rs)) (be h (.ref i) h'))=_);refine J (vL e _)<|J (bq _)<|J (List.reverse_reverse _) ?_;refine(lO (p:=fun Y=>true) (f:=fun v=>.txt (xU (@Option.rec (List V) (fun Y=>List (Option Int)) [] (fun l=>@Option.rec (List (Option Int)) (fun Y=>List (Option Int)) [] (fun x=>x) (hY l)) (iJ v)))) (P:=pP (dJ []) 7955819) (K.map aV) K.length (.l (K.map aV)) (dJ []) [] 0 (pi _) (J (QJ _)<|QR _) (J (QJ _)<|ai 0xfa041400400003a98041400c0040001 rfl hK) (fun x hx=>?_) kx).trans ?_
 ·refine mW (List.mem_map.mp hx) fun ks hk=>w9 (fun k=>rfl) fun Y k=>(LO (hs ks hk) _ rfl).trans<|(?_ :_=k (.txt (xU (@Option.rec (List (Option Int)) (fun Y=>List (Option Int)) [] (fun x=>x) (hY (ks.map ov))))) _);exact J (mH _) rfl
 ·refine J (ke _)<|J (List.append_nil _)<|J (ux e _)<|J QZ ?_;refine J (bq _)<|J (List.reverse_reverse _)<|J QZ ?_;congr 2;refine List.map_congr_left fun ks Y=>(?_ :V.txt (xU (@Option.rec (List (Option Int)) (fun Y=>List (Option Int)) [] (fun x=>x) (hY (ks.map ov))))=_)
  refine J (mH _) ?_;rfl
theorem Iq(e:h.obj i=some o)(e':h'.obj i=h.obj i):aR h' (.ref i) x=aR h (.ref i) x:=by delta aR;refine J (hX e _ _)<|J (hX (e'.trans e) _ _)<|J (iM e)<|J (iM (e'.trans e)) ?_;delta mw;exact J (dk e _ _)<|J (dk (e'.trans e) _ _)<|J (k7 e _ _)<|J (k7 (e'.trans e) _ _) rfl
end
section
variable{O:CK}{T:Tb}{s:RS}
structure HI(s:RS)(nk:Nat)(h:Hp):Prop where
 f:∃t n,h=gH s.lo t n s.u/\4101+nk<=n
 o:∀j,j < 4101+nk->h.obj j=s.h.obj j
theorem HI.self(hn:s.n=4101+nk):HI s nk s.h:=⟨⟨s.t,s.n,rfl,ai 0x5000040144006001146140001005100040002 rfl hn⟩,fun Y Y=>rfl⟩
theorem HI.new(x:HI s nk h)(o:aB):HI s nk (h.new o)/\(h.new o).obj h.next=some o/\4101+nk<=h.next:=by
 obtain⟨⟨t,n,rfl,hn⟩,ho⟩:=x;refine xE (vz (by lia)) fun t2 e=>⟨⟨⟨t2,n+1,e,by exact ai 0x185000040144000040043180140001005100040002 rfl hn⟩,fun j hj=>?_⟩,?_,hn⟩
 ·(refine J (Hp.obj_new _ _ _)<|J (QN (by exact fun e=>ai 0x61c00451400010051001c00411850000401440000400030030c0183 rfl hn hj e)) ?_);exact ho j hj
 ·exact J (Hp.obj_new _ _ _)<|J (QM rfl) rfl
theorem HI.set2(x:HI s nk h){o o':aB}(hi:4096<=i)(e:h.obj i=some o):HI s nk ((h.set i o').set i o):=by
 obtain⟨⟨t,n,rfl,hn⟩,ho⟩:=x;have st:∀(t:Tr) (o:aB),(gH s.lo t n s.u).set i o=gH s.lo (t.put i o (GV (Nat.sub i 4096))) n s.u:=fun t o=>by refine(?_ :@Bool.rec (fun Y=>Hp) _ _ (Nat.ble 4096 i)=_);exact J (QH hi) rfl
 refine⟨⟨_,n,by(exact J (st _ _)<|J (st _ _) rfl),hn⟩,fun j hj=>?_⟩;refine J (Hp.obj_set _ _ _ _)<|J (Hp.obj_set _ _ _ _)<|aQ (ho j hj) ?_;by_cases c:j=i
 ·exact J (QM c)<|J c<|J e rfl
 ·exact J (QN c)<|J (QN c) rfl
theorem HI.sub(x:HI s nk h){o:aB}(hi:i < 4101+nk)(e:s.h.obj i=some o)(v:V):aR h (.ref i) v=aR s.h (.ref i) v:=Iq e (x.o i hi)
theorem C5:s.h.obj 4100=some (.dL [(1936156018,.ref 4096),(1937207154,.ref 4097),(1937335659,.ref 4098),(29793,.ref 4099),(32481117229639779,s.ch)] s.e5):=by kernel_rfl
theorem L5:s.h.obj 4098=some (.dI s.kd s.e3):=by kernel_rfl
theorem Nm:s.h.obj 4097=some (.dI s.rw s.e2):=by kernel_rfl
theorem Oj:aR s.h (.ref 4100) (.lit 1937335659)=some (.ref 4098):=by kernel_rfl
theorem Lj:aR s.h (.ref 4100) (.lit 32481117229639779)=some s.ch:=by kernel_rfl
theorem K0:∀{nk i:Nat},nk<=3->i < nk->aL iE (I2 nk) (Int.ofNat (i+1))=some (.ref (4101+i))
 |1,0,_,_=>rfl
 |2,0,_,_=>rfl
 |2,1,_,_=>rfl
 |3,0,_,_=>rfl
 |3,1,_,_=>rfl
 |3,2,_,_=>rfl
 |0,i,_,h=>absurd h (by exact lin 0xc5000101 rfl _)
 |1,i+1,_,h=>absurd h (by exact lin 0x43043140000101 rfl _)
 |2,i+2,_,h=>absurd h (by exact lin 0x83083140000101 rfl _)
 |3,i+3,_,h=>absurd h (by exact lin 0xc30c3140000101 rfl _)
 |n+4,_,h,_=>absurd h (by exact lin 0xc31031400000c1 rfl _)
theorem NQ:∀{i:Nat},i < 3->D9 s i l->s.h.obj (4101+i)=some (.list l l.length)
 |0,_,e=>by
  have z:s.h.obj 4101=some (.list s.k1 s.n1):=by kernel_rfl
  exact J z<|J e.1<|J e.2 rfl
 |1,_,e=>by
  have e:=e;have z:({s with t2:=lf 4102 (.list l l.length)}:RS).h.obj 4102=some (.list l l.length):=by kernel_rfl
  obtain z:=e▸z;exact z
 |2,_,e=>by
  have e:=e;have z:({s with t3:=lf 4103 (.list l l.length)}:RS).h.obj 4103=some (.list l l.length):=by kernel_rfl
  obtain z:=e▸z;exact z
 |n+3,h,_=>absurd h (by exact lin 0xc30c3140000101 rfl _)
def Aw(T:Tb):Prop:=∀e∈T,e.1.natAbs < 1000000000/\∀j i,e.2.col j=some i->i.natAbs < 1000000000
theorem Ea(hs:Aw T){x:Ix}(hx:x.cols.length<=2):∀e∈T,MC (bc x e.1 e.2):=fun e he=>by
 refine xA (hs e he) fun h1 h2=>⟨by delta bc;(refine J QI<|J (QJ _) ?_);refine(?_ :x.cols.length+1<=8);lia,fun i hi=>?_⟩
 refine Or.elim (List.mem_append.mp hi) (fun hi=>?_) fun hi=>?_
 ·exact an (List.mem_map.mp hi) fun j Y hj=>h2 j i hj
 ·obtain rfl:=sj (List.mem_singleton.mp hi);exact h1
theorem JV(F:Gz m wr pg wy mn kd)(W:I1 s.lo wr (xB c) (Hn c))(r:jL (aG c).length q s t')(iq:Inv c T q)(hr:s.lo 5=some (.dI (cy T) ep))(hT:T.length<=20)(hs:Aw T)(x:HI s (aG c).length h):
  ∃m' h',∀kn kb kr,aF (aa O) (gg 7) m h kn kb kr=kn m' h':=by
 have hl:(xB c).length=(aG c).length:=QJ _;have h3:=(cO c).2.2.1;obtain nd:=iq.nd;have ic:∀{h},HI s (aG c).length h->bO h wr 9146654716209542448838493892201=some (.fl (xB c)):=fun⟨⟨t,n,e,_⟩,_⟩=>by exact ij W fun Y Y ψ0=>xE ψ0 fun Y f=>J e<|(f _ _ _).1
 obtain⟨m',h',_,e⟩:=vC (as:=hU (aa O) (.var false 29793)) (bd:=aF (aa O) (ja (gg 7))) (P:=fun j m h=>Gz m wr pg wy mn kd/\HI s (aG c).length h) (aG c).length 0 m h (fun j _ hj m h ⟨f,x⟩=>by
  have hx:∃x,(aG c)[j]? =some x:=⟨_,List.getElem?_eq_getElem (by exact ai 0x1800c0140041185040042 rfl hj)⟩
  refine xE hx fun ix hx=>xA (yv c hx) fun cu j3=>?_;have mem:=List.mem_of_getElem? hx;have perm:(q.ks (j+1)).Perm (T.map fun e=>bc ix e.1 e.2):=aQ cu<|iq.ks ix mem;have lq:(q.ks (j+1)).length=T.length:=by(exact J perm.length_eq<|J (QJ _) rfl)
  have sk:∀ks∈T.map (fun e=>bc ix e.1 e.2),MC ks:=fun ks hk=>by exact mW (List.mem_map.mp hk) fun e he=>Ea hs ((cO c).1 ix mem).le e he
  have ol:=NQ j3 (r.ks j (ai 0x1800c0140041185040042 rfl hj)).1;rw [List.length_reverse,List.length_map] at ol;have oh:h.obj (4101+j)=some (.list ((q.ks (j+1)).map aV).reverse (q.ks (j+1)).length):=(x.o _ (ai 0x1800c0140041180001005100140001005100040042 rfl hj)).trans ol;have x1:=x.set2 (o':=.gone) (by exact lin 0x140001005100000040004000001 rfl _) oh;generalize e1:(h.set (4101+j) .gone).set (4101+j) (.list ((q.ks (j+1)).map aV).reverse (q.ks (j+1)).length)=h1 at x1;refine fp (x1.new (.list (lg c T j) (lg c T j).length)) fun x2 o2 n2=>?_;have ky:lg c T j=((T.map fun e=>bc ix e.1 e.2).map aV).reverse:=by delta lg;(refine J hx<|J QZ ?_);rfl
  rw [ky] at o2 x2;rw [List.length_reverse,List.length_map] at o2 x2;obtain x3:=x2.set2 (o':=.gone) (by lia) o2;refine⟨ae (ae m 29793 (vi j)) 1937335659 (.ref (4101+j)),_,⟨⟨f.wr,f.rw,f.pg,f.wy,f.lt,f.mn,f.kd,f.st⟩,x3⟩,fun kn kb kr=>?_⟩;refine(?_ :aF (aa O) (ja (gg 7)) (ae m 29793 (vi j)) h kn kb kr=_);(refine J Po<|J (show ae m 29793 (vi j) 435744240755=some (.ref 4100) from f.st)<|J ab<|J ((x.sub (by exact lin 0x140001005100000040104000041 rfl _) C5) _)<|J Oj<|J ab<|J (show ae m 29793 (vi j) 125780070330999=some wr from f.wr)<|J ab<|J (ic x)<|J ab<|J (show ae m 29793 (vi j) 29793=some (vi j) from rfl)<|J ab<|J (pG (by exact ai 0xc31800401850010800007d0105080002 rfl hl h3) (show(xB c)[j]? =some (vi (j+1)) by delta xB;(refine J (List.getElem?_map) ?_;refine J hx<|aQ cu ?_);rfl)) ?_;refine J ab<|J ((x.sub (by exact lin 0x140001005100000040084000041 rfl _) L5) _)<|J (show aR s.h (.ref 4098) (vi (j+1))=_ from pM L5 _)<|J r.kd<|J (K0 h3 (by exact ai 0x1800c0140041185040042 rfl hj))<|J ab ?_);refine J (AO (fun k=>rfl) oh (by exact ai 0x1850010940c60010000003e8105080002 rfl hT lq) (fun ks hk=>sk ks (perm.subset hk)))<|J e1<|J ((y6 (by(refine J (QJ _)<|J lq ?_);exact ai 0x140c500103c0c5040041 rfl hT)) _) ?_
  rw [AO (fun k=>by
   refine J Qb<|J (show ae (ae m 29793 (vi j)) 1937335659 (.ref (4101+j)) 125780070330999=some wr from f.wr)<|J ab<|J (show ae (ae m 29793 (vi j)) 1937335659 (.ref (4101+j)) 491328397676=some (.ref 5) from f.lt)<|J (show ae (ae m 29793 (vi j)) 1937335659 (.ref (4101+j)) 29793=some (vi j) from rfl) ?_;simp only[ab];obtain⟨⟨t,n,e,_⟩,_⟩:=x1
   (exact J e<|J (s_ W hx (by exact lin 0x40004143000040 rfl) hr nd (by exact ai 0x140c50010000003e8105040001 rfl hT))<|J (fA _ _ _)<|J ky<|J QL<|J (QJ _) rfl)) o2 (by exact J (QJ _)<|ai 0x140c50010000003e8105040001 rfl hT) sk,y6 (by(refine J (QJ _)<|J (QJ _) ?_);exact ai 0x140c500103c0c5040041 rfl hT),Ia (perm.map xU),ab]
  rfl) ⟨F,x⟩
 refine⟨m',h',fun kn kb kr=>?_⟩;refine J q7<|J (EM F.wr (ic x) (ai 0xc31800401850010800003e8105080002 rfl hl h3))<|J hl ?_;exact e kn kr
end
section
variable{O:CK}{T T0:Tb}{w:cq}
def lC(kd:Option Nat):V:=@Option.rec Nat (fun Y=>V) .none (fun k=>.lit (kc k)) kd
noncomputable def zD(w:cq):V:=@cq.casesOn (fun Y=>V) w (.int 0) (.int 1) (.int 2) .none (.int 0)
theorem HM(x:HI s nk h)(hw:m 7954807=some (.lit (bh w))):aF O (gg 4) m h kn kb kr=kn (ae m 121424789660513 (zD w)) (h.new eJ):=by
 refine fp (x.new eJ) fun Y o Y=>?_;refine J q4<|J (fA _ _ _)<|J (lS o _ _) ?_;refine(?_ :ay (j0 2 (.ref h.next) (h.new eJ)) (ag (m 7954807) fun w=>IM 2 (.ref h.next) w .none (h.new eJ) fun v h=>kn (ae m 121424789660513 v) h) none=_);obtain b1:j0 2 (.ref h.next) (h.new eJ)=true:=by refine(?_ :iD (h.new eJ) (.ref h.next) (rZ (h.new eJ) (.ref h.next) false fun Y Y Y=>true) (fun Y Y Y=>true)=true);exact J (dk o _ _)<|k7 o _ _
 have b2:mw (h.new eJ) (.ref h.next) (.lit (bh w))=some (aL Nat.beq [(500136108641,.int 0),(28538242730059122,.int 0),(7738135660106379122,.int 1),(1818845542,.int 2)] (bh w)):=by refine(?_ :iD (h.new eJ) (.ref h.next) (rZ (h.new eJ) (.ref h.next) none fun Y es Y=>aj (di (.lit (bh w))) fun k=>some (aL Nat.beq es k)) _=_);exact J (dk o _ _)<|k7 o _ _
 refine J b1<|J hw ?_;refine(?_ :aj (mw (h.new eJ) (.ref h.next) (.lit (bh w))) (fun o=>kn (ae m 121424789660513 (@Option.rec V (fun Y=>V) .none (fun v=>v) o)) (h.new eJ))=_);refine J b2 ?_;cases w<;>rfl
theorem CD(r:bz):lR (aH r) (aH r)=some true:=by have:=iO [r.1,r.2.1,r.2.2.1,r.2.2.2] [r.1,r.2.1,r.2.2.1,r.2.2.2];rw [beq_self_eq_true] at this;exact this
theorem rf:∀{l:Tb},(∀e∈l,T.lookup e.1=some e.2)->IZ (cy T) (cy l)=some true
 | [],_=>rfl
 |e::l,hs=>by refine(?_ :@Option.rec V (fun Y=>Option Bool) (some false) (fun u=>aj (lR (aH e.2) u) fun c=>aj (IZ (cy T) (cy l)) fun d=>some (and c d)) (aL iE (cy T) e.1)=_);refine J (dY _ _)<|J (eS _ _)<|J (hs e (.head _))<|J (rf fun e he=>hs e (.tail _ he)) ?_;refine(?_ :aj (lR (aH e.2) (aH e.2)) _=_);refine J (CD _) ?_;rfl
theorem w7(o1:h.obj a=some (.dI (cy T) e1))(o2:h.obj b=some (.dI (cy T) e2))(nd:(T.map (·.1)).Nodup):ba h .NotEq (.ref a) (.ref b)=some false:=by
 refine(?_ :aj (EB h (.ref a) (.ref b)) (fun c=>some (not c))=_);obtain this:EB h (.ref a) (.ref b)=some true:=by delta EB;refine J (G6 o1)<|(?_ :iD h (.ref a) _ _=_);refine J (dk o1 _ _)<|(?_ :iD h (.ref b) _ _=_);refine J (dk o2 _ _)<|(?_ :@Bool.rec (fun Y=>Option Bool) (some false) (IZ (cy T) (cy T)) (Nat.beq (aq (cy T)) (aq (cy T)))=_);exact J (Nat.beq_refl _)<|J (rf fun e he=>jB nd he) rfl
 refine J this ?_;rfl
theorem H1(a b d e f g:V)(h:Hp):bG O oi [a,b,d,e,f,g] h k=bG O ⟨oi.ps,.seq (dZ oi.b) (.seq (gg 1) (.seq (gg 2) (.seq (gg 3) (.seq (gg 4) (.seq (gg 5) (.seq (gg 6) (.seq (gg 7) (.seq (gg 8) .skip))))))))⟩ [a,b,d,e,f,g] h k:=congrArg (fun r=>bG O r [a,b,d,e,f,g] h k) CS
theorem PR(a b:V)(k:KV):aa O (.fn 47) [a,b] h k=um h b fun v h=>bG O nK [a,v] h k:=by kernel_rfl
def Jh(c:fZ)(T:Tb):PM:=⟨fun Y=>none,cy T,fun cu=>@Option.rec Ix (fun Y=>List (List (Option Int))) [] (fun x=>T.map fun e=>bc x e.1 e.2) ((aG c)[cu - 1]?),fun Y=>none,0⟩
theorem Jk(nd:(T.map (·.1)).Nodup):Inv c T (Jh c T):=⟨rfl,fun x hx=>by
 obtain⟨i,hi,e⟩:=List.getElem_of_mem hx;have e:(aG c)[i]? =some x:=by(refine J (List.getElem?_eq_getElem hi) ?_;exact J e rfl)
 refine xA (yv c e) fun cu Y=>(?_ :(@Option.rec Ix (fun Y=>List (List (Option Int))) [] (fun x=>T.map fun e=>bc x e.1 e.2) ((aG c)[x.cur - 1]?)).Perm _)
 (refine J cu ?_;(refine J (Nat.add_sub_cancel _ _) ?_;rw [e])),nd⟩
theorem LW:lg c T i=(((Jh c T).ks (i+1)).map aV).reverse:=by
 refine(?_ :lg c T i=((@Option.rec Ix (fun Y=>List (List (Option Int))) [] (fun x=>T.map fun e=>bc x e.1 e.2) ((aG c)[i+1 - 1]?)).map aV).reverse);delta lg;refine J (Nat.add_sub_cancel _ _)<|con ((aG c)[i]?) ?_ fun x=>?_
 ·rfl
 ·refine J QZ ?_;rfl
theorem NK(hT:T.length<=8):jL (aG c).length (Jh c T) (ON (aG c).length lo u (cy T) (lg c T)) 0 where
 rg _:=rfl
 rw:=rfl
 at' _:=rfl
 ch:=rfl
 kd:=rfl
 ks i hi:=by
  have h3:=(cO c).2.2.1;refine aQ LW<|⟨?_,?_⟩
  ·generalize (aG c).length=nk at hi h3
   match i,hi with
   |0,_=>exact⟨rfl,rfl⟩
   |1,hi=>obtain⟨n,rfl⟩:∃n,nk=n+2:=⟨nk - 2,Nat.le_antisymm (ai 0x20c60050010020c6005040002 rfl (jw _ _)) (ai 0x6083140001086083140040002 rfl (jI (ai 0x5043001045083040001 rfl hi)))⟩;rfl
   |2,hi=>
     obtain rfl:nk=3:=by exact QF (ai 0x30c50010030c5040001 rfl h3) (ai 0x50830010450c3040001 rfl hi)
     rfl
   |j+3,hi=>lia
  ·refine(?_ :(@Option.rec Ix (fun Y=>List (List (Option Int))) [] (fun x=>T.map fun e=>bc x e.1 e.2) ((aG c)[i+1 - 1]?)).length<=_);refine con ((aG c)[i+1 - 1]?) ?_ fun x=>?_
   ·exact Nat.zero_le _
   ·exact J (QJ _)<|ai 0x203140040003503005040001 rfl hT
 b1:=Nat.zero_le _
 b2:=by exact J (QJ _)<|ai 0x203140040003503005040001 rfl hT
 b3:=Nat.zero_le _
 tp e he:=an (List.mem_map.mp he) fun a Y ρ=>aQ ρ<|⟨_,rfl⟩
theorem iI:ay true a b=a:=rfl
theorem mE:ay false a b=b:=rfl
theorem yy:ay (xor true true) a (ay true b d)=b:=rfl
theorem Bn:ay (xor false true) a b=a:=rfl
theorem L4:ba h .Is (lC none) .none=some true:=rfl
theorem Ld{k:Nat}:ba h .Is (lC (some k)) .none=some false:=rfl
theorem aN:aF O (.seq a b) m h kn kb k=aF O a m h (fun m h=>aF O b m h kn kb k) kb k:=rfl
theorem zk{os:List V}{P:List Op}{ep5:Nat}{pl:V}(M:Made lo wr pg os (xB c) (Hn c))(pgm:Li os P)(hP:P.length<=1900)(h3:lo 3=some (.dI (cy T0) ep))(h5:lo 5=some (.dI (cy T) ep5))(nd0:(T0.map (·.1)).Nodup)(l0:T0.length<=8)(l1:T.length<=20)(hs:Aw T)
  (x:Ex (aG c).length P 0 (Jh c T0) (oe w kd) q)(iq:Inv c T q)(hq:q.ch=Ez w n kd)(hk:kd≠none->bX w=false):
  ∃h',∀k,bG (aa (aa (aa O))) oi [pl,.ref 3,wr,pg,.lit (bh w),.fl [.ref 5,vi n,lC kd]] (gH lo .nl 4096 u) k=k (.bool true) h':=by
 have n3:=(cO c).2.2.1;refine gY (AR M (by delta Hn;exact J (QJ _)<|n3)) fun o lo2 f1 f2 f3 W W2=>?_;have F:Gz (ae (MI pl (.ref 3) wr pg (.lit (bh w)) (.ref 5) (vi n) (lC kd)) 435744240755 (.ref 4100)) wr pg (.lit (bh w)) (vi n) (lC kd):=⟨rfl,rfl,rfl,rfl,rfl,rfl,rfl,rfl⟩
 refine an (K3 (O:=aa (aa O)) (u:=u) (es:=cy T0) F W h3 nd0 (ai 0x80c50010000003e8105040001 rfl l0)) fun m1 F1 g1=>?_;refine bf (Gb (O:=O) pgm hP n3 x (NK (lo:=lo2) (u:=u) l0)) fun s' t' r' ht s1 s2 s3 g2=>?_;have s1:s'.lo=lo2:=s1;obtain s2:=s2;have hi:=HI.self s2;have hi2:=(hi.new eJ).1;have h5':s'.lo 5=some (.dI (cy T) ep5):=by(refine J s1<|J (f3 5 (by decide)) ?_);exact h5
 let uz:V:=.fl [(oe w kd).1,Nu (oe w kd).2];have F2:Gz (ae (ae m1 1684828020 uz) 121424789660513 (zD w)) wr pg (.lit (bh w)) (vi n) (lC kd):=⟨F1.wr,F1.rw,F1.pg,F1.wy,F1.lt,F1.mn,F1.kd,F1.st⟩
 refine ij (JV (O:=aa (aa O)) F2 (s1▸W2) r' iq h5' l1 hs hi2) fun m3 h' g3=>⟨h',fun k=>?_⟩
 have up:∀{lo:Nat->Option aB} {i:Nat} {o:aB},lo i=some o->bD lo i o=lo:=fun{lo i o} e=>funext fun j=>by
  refine(?_ :@Bool.rec (fun Y=>Option aB) (lo j) (some o) (Nat.beq j i)=_);by_cases c:j=i
  ·exact J (natE.t c)<|J c<|J e rfl
  ·exact J (natE.f c) rfl
 refine J (H1 _ _ _ _ _ _ _)<|J (q0 _ _ _ _ _ _ _ _ _)<|J aN ?_;have e1:=q1 (O:=aa (aa (aa O))) (kn:=fun m h=>aF (aa (aa (aa O))) (.seq (gg 2) (.seq (gg 3) (.seq (gg 4) (.seq (gg 5) (.seq (gg 6) (.seq (gg 7) (.seq (gg 8) .skip))))))) m h (fun Y h=>k .none h) (fun Y Y=>none) k) (kb:=fun Y Y=>none) (kr:=k) pl wr pg (.lit (bh w)) (.ref 5) (vi n) (lC kd) lo (cy T0) ep u;rw [up h3,bT (by exact J (QJ _)<|ai 0x80c50010080c5040001 rfl l0),dd] at e1;refine J e1<|J aN<|J (show gH lo (FL (cy T0)) 4101 u=qz 0 lo u (cy T0) (lg c T0) from rfl)<|J (g1 _ _ _)<|J aN<|J q3<|J F1.st<|J ab<|J F1.pg<|J ab ?_;obtain hk4:∃t n,qz (aG c).length lo u (cy T0) (lg c T0)=gH lo t n u:=Fk _ (ai 0x30c50010040c5040041 rfl n3)
 have e47:∀q:KV,aa (aa (aa O)) (.fn 47) [.ref 4100,.ref o] (qz (aG c).length lo u (cy T0) (lg c T0)) q=q uz s'.h:=fun q=>by
  refine J (PR _ _ _) ?_
  obtain z:qz (aG c).length lo u (cy T0) (lg c T0)=gH lo (ON (aG c).length lo u (cy T0) (lg c T0)).t (4101+(aG c).length) u:=by
   obtain⟨j,hj⟩:∃j,(aG c).length=j+1:=⟨(aG c).length - 1,by obtain this:=(cO c).2.2.2;exact QF (ai 0x10c60050010010c6005040002 rfl (jw _ _)) (ai 0x6043140001086043140040002 rfl (jI (ai 0x5043001005043040001 rfl this)))⟩
   refine J hj ?_;rfl
  refine J z<|J (f2 _ _ _ _) ?_;exact g2 q
 obtain a47:bO (qz (aG c).length lo u (cy T0) (lg c T0)) pg 7565423=some (.ref o):=ij hk4 fun t n e=>J e<|f1 _ _ _;refine J a47<|J ab<|J (e47 _)<|J aN<|J (HM hi (show ae m1 1684828020 uz 7954807=some (.lit (bh w)) from F1.wy))<|J aN<|J q5 ?_;generalize hm2:ae (ae m1 1684828020 uz) 121424789660513 (zD w)=m2 at F2 g3;obtain tl:m2 1684828020=some uz:=by refine aQ hm2 ?_;rfl
 obtain ac:m2 121424789660513=some (zD w):=by refine aQ hm2 ?_;rfl
 have z5k:∀(kn:KL) (kr:KV) (x:V),ba (s'.h.new eJ) .NotEq uz x=some false->z5 m2 (s'.h.new eJ) kn kr uz x=kn m2 (s'.h.new eJ):=fun kn kr x hx=>by
  delta z5;refine J hx<|J ab ?_;refine(?_ :ag (m2 435744240755) (fun st=>ag (aR (s'.h.new eJ) st (.lit 1937207154)) fun r=>ag (m2 491328397676) fun l=>ag (ba (s'.h.new eJ) .NotEq r l) fun c2=>ay c2 (kr (.bool false) (s'.h.new eJ)) (kn m2 (s'.h.new eJ)))=_);obtain or':(s'.h.new eJ).obj 4097=some (.dI (cy T) s'.e2):=by exact J (hi2.o _ (lin 0x140001005100000040044000041 rfl _))<|J Nm<|J r'.rw<|J iq.rows rfl
  obtain o5:(s'.h.new eJ).obj 5=some (.dI (cy T) ep5):=by exact J (hi2.o _ (lin 0x140001005100143000041 rfl _))<|(jY (lin 0x40004143000040 rfl)).trans h5'
  (refine J F2.st<|J ab<|J ((hi2.sub (lin 0x140001005100000040104000041 rfl _) C5) _)<|J LG<|J ab<|J F2.lt<|J ab<|J (w7 or' o5 iq.nd)<|J ab ?_);rfl
 have z6k:∀(kn:KL) (kr:KV),z6 m2 (s'.h.new eJ) kn kr s'.ch (.int q.ch)=kn m2 (s'.h.new eJ):=fun kn kr=>by delta z6;refine J r'.ch<|(?_ :ag (some (not (iE q.ch q.ch))) _=_);refine J (d7.t rfl) ?_;rfl
 have tail:∀(kr:KV),aF (aa (aa (aa O))) (.seq (gg 7) (.seq (gg 8) .skip)) m2 (s'.h.new eJ) (fun Y h=>kr .none h) (fun Y Y=>none) kr=kr (.bool true) h':=fun kr=>by exact J aN<|J (g3 _ _ _)<|J aN<|J q8 rfl
 refine J tl<|J ab<|J F2.kd<|J ab ?_
 cases kd with
 |none=>
  (refine J L4<|J ab<|J iI<|J (z5k _ _ _ rfl)<|J aN<|J q6<|J F2.st<|J ab<|J ((hi2.sub (lin 0x140001005100000040104000041 rfl _) C5) _)<|J Lj<|J ab<|J F2.kd<|J ab<|J L4<|J ab<|J yy<|J F2.mn<|J ab<|J (show vi n=.int q.ch by refine J hq ?_;rfl) ?_;refine J (z6k _ _) ?_)
  exact tail k
 |some kd=>
  have ig:=hk (fun q=>nomatch q)
  rw [Ld,ab,mE,ac,ab,ab,z5k _ _ _ (by
   obtain e:zD w=vi (jM w):=by cases w<;>first|rfl|exact nomatch ig
   refine J e<|(?_ :aj (aj (some (iE (Int.ofNat (jM w)) (Int.ofNat (jM w)))) fun c=>aj (aj (some (Nat.beq (kc kd) (kc kd))) fun c=>aj (some true) fun d=>some (and c d)) fun d=>some (and c d)) (fun c=>some (not c))=some false)
   (refine J (d7.t rfl)<|J (Nat.beq_refl _) ?_);rfl),aN,q6,F2.st,ab,hi2.sub (by exact lin 0x140001005100000040104000041 rfl _) C5,Lj,ab,F2.kd,ab,Ld,ab,Bn,F2.wy,ab]
  cases w with
  |fail=>
   (refine J (show ba (s'.h.new eJ) .Eq (.lit (bh .fail)) (.lit 1818845542)=some true from rfl)<|J ab<|J iI<|J F2.mn<|J ab<|J (show vi n=.int q.ch by refine J hq ?_;rfl) ?_;refine J (z6k _ _) ?_)
   exact tail k
  |ignore=>exact nomatch ig
  |abort|rollback|replace=>
   (refine J ((show∀h,ba h .Eq (.lit (bh _)) (.lit 1818845542)=some false from fun Y=>rfl) _)<|J ab<|J mE<|J (show(0:Int)=q.ch by refine J hq ?_;rfl) ?_;refine J (z6k _ _) ?_)
   exact tail k
end
noncomputable abbrev bH(lo:Nat->Option aB)(n:Nat):Hp:=⟨lo,1024,.nl,n,[]⟩
section
variable{O:CK}{k:KV}{w:cq}
theorem dx(e:lo i=some o):bD lo i o=lo:=funext fun j=>by
 refine(?_ :@Bool.rec (fun Y=>Option aB) (lo j) (some o) (Nat.beq j i)=_);by_cases c:j=i
 ·exact J (natE.t c)<|J c<|J e rfl
 ·exact J (natE.f c) rfl
theorem gj:bD (bD lo i o') i o=bD lo i o:=funext fun j=>by
 refine(?_ :@Bool.rec (fun Y=>Option aB) (@Bool.rec (fun Y=>Option aB) (lo j) (some o') (Nat.beq j i)) (some o) (Nat.beq j i)=@Bool.rec (fun Y=>Option aB) (lo j) (some o) (Nat.beq j i));cases Nat.beq j i<;>rfl
theorem d9:bD lo i o i=some o:=by refine(?_ :@Bool.rec (fun Y=>Option aB) (lo i) (some o) (Nat.beq i i)=_);exact J (Nat.beq_refl _) rfl
theorem bW(h:j≠i):bD lo i o j=lo j:=by refine(?_ :@Bool.rec (fun Y=>Option aB) (lo j) (some o) (Nat.beq j i)=_);exact J (natE.f h) rfl
theorem kj(hi:i < 1024):(bH lo n).obj i=lo i:=by
 refine(?_ :@Bool.rec (fun Y=>Option aB) (lo i) _ (Nat.ble 1024 i)=_);refine fE (Nat.ble 1024 i) (fun q=>?_) fun q=>?_
 ·exact absurd (QG q) (ai 0x4001050010450000100040400c1 rfl hi)
 ·rfl
theorem uB(hi:i < 1024):(bH lo n).set i o=bH (bD lo i o) n:=by
 refine(?_ :@Bool.rec (fun Y=>Hp) _ _ (Nat.ble 1024 i)=_);refine fE (Nat.ble 1024 i) (fun q=>?_) fun q=>?_
 ·exact absurd (QG q) (ai 0x4001050010450000100040400c1 rfl hi)
 ·rfl
theorem ut(hn:n < 1024):dt (bH lo n) o k=k (.ref n) (bH (bD lo n o) (n+1)):=by
 refine(?_ :k (.ref n) (@Bool.rec (fun Y=>Hp) _ _ (Nat.ble 1024 n))=_);refine fE (Nat.ble 1024 n) (fun q=>?_) fun q=>?_
 ·exact absurd (QG q) (ai 0x4001050010450000100040400c1 rfl hn)
 ·rfl
def Oe(w:cq)(v:bz)(k:KV)(h:Hp):KX:=@Option.rec Int (fun Y=>KX) (k (.fl [aH v,.none]) h) (fun d=>ay (decide (d < 0)) (k (.fl [.none,lC (if bX w then none else some 38)]) h) (k (.fl [aH v,.none]) h)) v.2.2.2
theorem OL(a b:Option Int)(x:Int)(d:Option Int):aa O (.fn 34) [.ref 2,aH (a,b,some x,d),.lit (bh w)] (bH (bD lo 2 (bQ c ep)) n) k=Oe w (a,b,some x,d) k (bH (bD lo 2 (bQ c ep)) n):=by cases w<;>cases d<;>kernel_rfl
theorem Nc(a b:Option Int)(d:Option Int)(kd pr mo:Bool)(df:Option Int):aa O (.fn 34) [.ref 2,aH (a,b,none,d),.lit (bh w)] (bH (bD lo 2 (bQ ⟨kd,pr,mo,df⟩ ep)) n) k=@Bool.rec (fun Y=>KX) (@Option.rec Int (fun Y=>KX) (k (.fl [.none,lC (some 33)]) (bH (bD lo 2 (bQ ⟨kd,pr,mo,df⟩ ep)) n)) (fun x=>@Bool.rec (fun Y=>KX) (k (.fl [.none,lC (some 33)]) (bH (bD lo 2 (bQ ⟨kd,pr,mo,df⟩ ep)) n)) (Oe w (a,b,some x,d) k (bH (bD lo 2 (bQ ⟨kd,pr,mo,df⟩ ep)) n)) (aY w)) df) (k (.fl [.none,.none]) (bH (bD lo 2 (bQ ⟨kd,pr,mo,df⟩ ep)) n)) (bX w):=by cases w<;>cases d<;>cases df<;>kernel_rfl
noncomputable def tN(c:fZ)(w:cq)(v:bz):Except (Option Nat) bz:=match dG c w v with
 |.error e=>.error e
 |.ok v=>gm w v
def MX(x:Except (Option Nat) bz):V:=match x with
 |.error e=>.fl [.none,lC e]
 |.ok v=>.fl [aH v,.none]
theorem AL:Oe w v k h=k (MX (gm w v)) h:=by
 obtain⟨a,b,x,d⟩:=v;refine con d ?_ fun d=>?_
 ·rfl
 ·refine(?_ :ay (decide (d < 0)) _ _=k (MX (if d < 0 then .error (if bX w then none else some 38) else .ok (a,b,x,some d))) h);by_cases c:d < 0
  ·(refine J (QO c)<|J (QM c) ?_);rfl
  ·(refine J (QP c)<|J (QN c) ?_);rfl
theorem Qe(e:lo 2=some (bQ c ep)):aa O (.fn 34) [.ref 2,aH v,.lit (bh w)] (bH lo n) k=k (MX (tN c w v)) (bH lo n):=by
 obtain⟨a,b,x,d⟩:=v;obtain⟨kd,pr,mo,df⟩:=c;obtain s:=OL (O:=O) (lo:=lo) (n:=n) (k:=k) (c:=⟨kd,pr,mo,df⟩) (w:=w) (ep:=ep) a b;have nn':=Nc (O:=O) (lo:=lo) (n:=n) (k:=k) (w:=w) (ep:=ep) a b d kd pr mo df;rw [dx e] at nn';refine con x ?_ fun x=>?_
 ·refine J nn' ?_;cases w<;>cases df<;>first|rfl|exact AL
 ·have:=s x d;rw [dx e] at this;(refine J this<|J AL ?_);rfl
end
section
variable{O:CK}{kn kb:KL}{kr k:KV}{pl rw was key row a b mt:V}{w:cq}
noncomputable def O0:X:=.bl false (.b (.cmp .NotEq) (.var 7955819) (.var 7561591)) (.bl false (.b (.cmp .IsNot) (.b .sub (.var 7827314) (.val (.int 1))) (.val .none)) (.b (.cmp .Eq) (.b .sub (.b .sub (.var 1937207154) (.var 7955819)) (.val (.int 1))) (.b .sub (.var 7827314) (.val (.int 1)))))
noncomputable def Oh:X:=.bl false (.b (.cmp .NotEq) (.var 7955819) (.var 7561591)) (.b (.cmp .Eq) (.b .sfr (.b .sub (.var 1937207154) (.var 7955819)) (.val (.int 2))) (.b .sfr (.var 7827314) (.val (.int 2))))
noncomputable def xM(c:X):X:=.comp false [7827314,1937207154,7561591] false [7955819] (.c (.blt 7) (.cons (.var 1937207154) .nil)) c (.var 7955819)
def Lx(pl rw was row:V):Loc:=ae (ae (ae (ae (fun Y=>none) 1851878512 pl) 1937207154 rw) 7561591 was) 7827314 row
theorem Pz:aa O (.fn 33) [pl,rw,was,row] h k=bS O (xM O0) (Lx pl rw was row) h fun v h=>ag (aR h pl (.lit 1919508848)) fun p=>ag (gU h p) fun b=>ay (xor b false)
  (ag (aR h row (vi 3)) fun x=>ag (ba h .IsNot x .none) fun b2=>ay b2 (bS O (xM Oh) (ae (Lx pl rw was row) 431349919590 v) h fun v2 h=>ag (cm h v v2) fun z=>k z h) (k v h))
  (ay b (bS O (xM Oh) (ae (Lx pl rw was row) 431349919590 v) h fun v2 h=>ag (cm h v v2) fun z=>k z h) (k v h)):=by kernel_rfl
theorem Nv(y:V):bS O O0 (ae (dJ [(7827314,row),(1937207154,rw),(7561591,was)]) 7955819 y) h k=ag (ba h .NotEq y was) fun b1=>ay (xor b1 false) (ag (aR h row (vi 1)) fun x=>ag (ba h .IsNot x .none) fun b2=>ay (xor b2 false) (ag (aR h rw y) fun z=>ag (aR h z (vi 1)) fun x2=>ag (aR h row (vi 1)) fun x=>ag (ba h .Eq x2 x) fun b3=>k (.bool b3) h) (k (.bool b2) h)) (k (.bool b1) h):=by kernel_rfl
theorem OO(y:V):bS O Oh (ae (dJ [(7827314,row),(1937207154,rw),(7561591,was)]) 7955819 y) h k=ag (ba h .NotEq y was) fun b1=>ay (xor b1 false) (ag (aR h rw y) fun z=>ag (me z (vi 2)) fun x2=>ag (me row (vi 2)) fun x=>ag (ba h .Eq x2 x) fun b3=>k (.bool b3) h) (k (.bool b1) h):=by kernel_rfl
def fq(n:Nat):S:=dZ (k9 n (lE 35))
def Ly(pl rw was key row:V)(w:cq):Loc:=ae (ae (ae (ae (ae (ae (fun Y=>none) 1851878512 pl) 1937207154 rw) 7561591 was) 7955819 key) 7827314 row) 7954807 (.lit (bh w))
def tv(pl rw was key row:V)(w:cq)(a b:V):Loc:=ae (ae (Ly pl rw was key row w) 7827314 a) 1684957547 b
def I'(w:cq)(kind:Nat)(kr:KV)(h:Hp):KX:=kr (.fl [vi 0,lC (if bX w then none else some kind)]) h
def pJ(O:CK)(h:Hp)(rw:V)(as:List V)(q:Hp->KX):KX:=ip h rw (ay (j0 3 rw h) (IQ 3 rw as h fun Y h=>q h) none) (fun Y c fs=>ag (jO c 7368560) fun g=>O (.fn g) (rw::as) h fun Y h=>q h)
theorem K':aF O (fq 0) (Ly pl rw was key row w) h kn kb kr=O (.fn 34) [pl,row,.lit (bh w)] h fun v h=>cr O [.var false 7827314,.var false 1684957547] (Ly pl rw was key row w) h v kn:=by cases w<;>kernel_rfl
theorem A3:cr O [.var false 7827314,.var false 1684957547] (Ly pl rw was key row w) h (.fl [a,b]) kn=kn (tv pl rw was key row w a b) h:=by kernel_rfl
theorem EC:aF O (fq 1) (tv pl rw was key row w a b) h kn kb kr=ag (ba h .Is a .none) fun z=>ay z (kr (.fl [vi 0,b]) h) (kn (tv pl rw was key row w a b) h):=by kernel_rfl
theorem zi:aF O (fq 2) (tv pl rw was key row w a b) h kn kb kr=ag (ba h .In key rw) fun b1=>ay (xor b1 false)
  (ag (ba h .NotEq key was) fun b2=>ay b2 (@Bool.rec (fun Y=>KX) (I' w 43 kr h) (pJ O h rw [key] fun h=>kn (tv pl rw was key row w a b) h) (aY w)) (kn (tv pl rw was key row w a b) h))
  (ay b1 (@Bool.rec (fun Y=>KX) (I' w 43 kr h) (pJ O h rw [key] fun h=>kn (tv pl rw was key row w a b) h) (aY w)) (kn (tv pl rw was key row w a b) h)):=by cases w<;>kernel_rfl
theorem LS:aF O (fq 3) (tv pl rw was key row w a b) h kn kb kr=O (.fn 33) [pl,rw,was,a] h fun v h=>kn (ae (tv pl rw was key row w a b) 7628141 v) h:=by kernel_rfl
theorem Ev:aF O (fq 4) (ae (tv pl rw was key row w a b) 7628141 mt) h kn kb kr=ag (ba h .NotEq mt (.fl [])) fun b1=>ay (xor b1 false)
  (@Bool.rec (fun Y=>KX) (I' w 45 kr h) (kn (ae (tv pl rw was key row w a b) 7628141 mt) h) (aY w)) (ay b1 (I' w 45 kr h) (kn (ae (tv pl rw was key row w a b) 7628141 mt) h)):=by cases w<;>kernel_rfl
theorem JR:aF O (fq 5) m h kn kb kr=ag (m 7628141) fun a=>bR h a fun n t h₁=>dw (hU O (.var false 491327616111)) (aF O (ja (fq 5))) n t m h₁ (fun m h'=>kn m (be h a h')) fun v h'=>kr v (be h a h'):=by kernel_rfl
theorem Hd(y:V):aF O (ja (fq 5)) (ae (ae m 1937207154 rw) 491327616111 y) h kn kb kr=pJ O h rw [y,.none] fun h=>kn (ae (ae m 1937207154 rw) 491327616111 y) h:=by kernel_rfl
theorem F4(hm:m 7561591=some .none):aF O (fq 6) (ae m 7561591 .none) h kn kb kr=kn (ae m 7561591 .none) h:=by kernel_rfl
theorem JD(u:Int):aF O (fq 6) (ae (ae m 1937207154 rw) 7561591 (.int u)) h kn kb kr=pJ O h rw [.int u,.none] fun h=>kn (ae (ae m 1937207154 rw) 7561591 (.int u)) h:=by kernel_rfl
theorem LA:aF O (fq 7) (ae (ae (ae m 1937207154 rw) 7955819 key) 7827314 a) h kn kb kr=ag (eP h rw key a) fun h=>kn (ae (ae (ae m 1937207154 rw) 7955819 key) 7827314 a) h:=by kernel_rfl
theorem Lr:aF O (fq 8) m h kn kb kr=kr (.fl [vi 1,.none]) h:=by kernel_rfl
def JE:FR:=@Option.rec FR (fun Y=>FR) ⟨[],.bad⟩ (fun r=>r) (tn 35)
theorem Ds:lE 35=.seq (fq 0) (.seq (fq 1) (.seq (fq 2) (.seq (fq 3) (.seq (fq 4) (.seq (fq 5) (.seq (fq 6) (.seq (fq 7) (.seq (fq 8) .skip)))))))):=by kernel_rfl
theorem PC(wy:V)(T:S):bG O ⟨JE.ps,T⟩ [pl,rw,was,key,row,wy] h k=aF O T (ae (ae (ae (ae (ae (ae (fun Y=>none) 1851878512 pl) 1937207154 rw) 7561591 was) 7955819 key) 7827314 row) 7954807 wy) h (fun Y h=>k .none h) (fun Y Y=>none) k:=by kernel_rfl
theorem Os(xs:List V):aa O (.fn 35) xs h k=bG O ⟨JE.ps,lE 35⟩ xs h k:=by kernel_rfl
end
section
variable{O:CK}{c:fZ}{T:Tb}{v:bz}{was:Option Int}
theorem vu(key:Int):ba h .NotEq (.int key) (ov was)=some (some key != was):=by
 obtain this:ba h .NotEq (.int key) (ov was)=aj (rL (ov (some key)) (ov was)) fun c=>some (not c):=by cases was<;>rfl
 (refine J this<|J (tU _ _) ?_);rfl
abbrev hR(lo:Nat->Option aB)(n r:Nat)(T:Tb)(ep:Nat):Hp:=bH (bD lo r (.dI (cy T) ep)) n
theorem mB(hr:r < 1024):(hR lo n r T ep).obj r=some (.dI (cy T) ep):=(kj hr).trans d9
noncomputable def gM(c:fZ)(was:Option Int)(v:bz)(e:Int×bz):Bool:=(oj c).any fun x=>mt x was v e
theorem uZ(c:fZ)(was:Option Int)(v:bz)(e:Int×bz):gM c was v e=(mt ⟨1,[1],true⟩ was v e || (c.pair && mt ⟨2,[2,3],true⟩ was v e)):=by obtain⟨kd,p,mo,df⟩:=c;delta gM oj aG;cases p<;>cases mo<;>simp
theorem Im(e:Int×bz):mt ⟨1,[1],true⟩ was v e=(some e.1 != was && (v.2.1.isSome && (e.2.2.1 == v.2.1))):=by delta mt Ix.of;refine(?_ :(some e.1 != was && (!([v.2.1].contains none) && ([e.2.2.1] == [v.2.1])))=_);cases v.2.1<;>cases e.2.2.1<;>simp
theorem tK(e:Int×bz)(hc:v.2.2.1=some x):mt ⟨2,[2,3],true⟩ was v e=(some e.1 != was && (v.2.2.2.isSome && ([e.2.2.2.1,e.2.2.2.2] == [v.2.2.1,v.2.2.2]))):=by delta mt Ix.of;refine(?_ :(some e.1 != was && (!([v.2.2.1,v.2.2.2].contains none) && ([e.2.2.2.1,e.2.2.2.2] == [v.2.2.1,v.2.2.2])))=_);refine J hc ?_;cases v.2.2.2<;>simp
theorem Fi{f:Int×bz->Bool}{m:Loc}(hr:r < 1024)(nd:(T.map (·.1)).Nodup)(hT:T.length < 60)(m1:fL m [7827314,1937207154,7561591]=some [(7827314,aH v),(1937207154,.ref r),(7561591,ov was)])(m2:m 1937207154=some (.ref r))
  (hc:∀e∈T,∀k,bS O cx (ae (dJ [(7827314,aH v),(1937207154,.ref r),(7561591,ov was)]) 7955819 (.int e.1)) (hR lo n r T ep) k=k (.bool (f e)) (hR lo n r T ep)):
  ∃ks:List Int,ks.length<=T.length/\(∀i,i∈ks↔ ∃e∈T,e.1=i/\f e=true)/\∀k,bS O (xM cx) m (hR lo n r T ep) k=k (.fl (ks.map V.int)) (hR lo n r T ep):=by
 let p:Int->Bool:=fun i=>@Option.rec bz (fun Y=>Bool) false (fun r=>f (i,r)) (T.lookup i);let srt:=c9 u9 (T.map (·.1));have pm:srt.Perm (T.map (·.1)):=gW _;have pe:∀e∈T,p e.1=f e:=fun e he=>by refine(?_ :@Option.rec bz (fun Y=>Bool) false (fun r=>f (e.1,r)) (T.lookup e.1)=_);exact J (jB nd he) rfl
 refine⟨srt.filter p,Nat.le_trans (List.length_filter_le _ _) (by(refine J pm.length_eq<|J (QJ _) ?_);exact QR _),fun i=>?_,fun k=>?_⟩
 ·refine jj List.mem_filter<|jj pm.mem_iff<|jj List.mem_map ?_;constructor
  ·rintro⟨⟨e,he,rfl⟩,hp⟩;exact⟨e,he,rfl,aQ (pe e he)<|hp⟩
  ·rintro⟨e,he,rfl,hf⟩;exact⟨⟨e,he,rfl⟩,J (pe e he)<|hf⟩
 ·let pV:V->Bool:=fun x=>@Option.rec Int (fun Y=>Bool) false p (vInt x);refine jh.trans ((gQ (p:=pV) (f:=id) (P:=pP (dJ [(7827314,aH v),(1937207154,.ref r),(7561591,ov was)]) 7955819) (a:=.fl (srt.map V.int)) (fun k=>?_) m1 (fun K=>iP K) rfl (pi _) (QR _) (by(refine J (QJ _)<|J pm.length_eq<|J (QJ _) ?_);exact ai 0x3c0c500104000ea60105040001 rfl hT) kx fun x hx=>?_).trans ?_)
  ·refine(?_ :ag (m 1937207154) (fun a=>gT 7 [a] (hR lo n r T ep) k)=_);refine J m2<|J ab ?_;refine(?_ :iD (hR lo n r T ep) (.ref r) (aj (gV (hR lo n r T ep) (.ref r)) fun xs=>aj (mf xs) fun ss=>bg (Nat.blt (aq ss) 60) (k (.fl (dq .txt (c9 ug ss))) (hR lo n r T ep))) (fun Y es Y=>bg (Nat.blt (aq es) 60) (k (.fl (dq .int (c9 u9 (dq (fun e=>e.1) es)))) (hR lo n r T ep)))=_);refine J (dk (mB hr) _ _)<|(?_ :bg (Nat.blt (aq (cy T)) 60) (k (.fl (dq V.int (c9 u9 (dq (fun e=>e.1) (cy T))))) (hR lo n r T ep))=_);(refine J (aw _)<|J (QJ _)<|J (show Nat.blt T.length 60=true from QH hT)<|J (dz _ _)<|J (dz _ _)<|J QZ ?_);rfl
  ·refine mW (List.mem_map.mp hx) fun i hi=>an (List.mem_map.mp (pm.subset hi)) fun e he ρ=>aQ ρ<|w9 (fun k=>?_) fun Y k=>rfl;refine J (hc e he _)<|(?_ :_=k (.bool (p e.1)) _);exact J (pe e he) rfl
  ·(refine J (List.map_id _)<|J List.filter_map ?_);rfl
theorem mq(v:bz):aR h (aH v) (vi 1)=some (ov v.2.1)/\aR h (aH v) (vi 3)=some (ov v.2.2.2):=⟨rfl,rfl⟩
theorem vJ(v:bz):me (aH v) (vi 2)=some (.tup ([v.2.2.1,v.2.2.2].map ov)):=rfl
theorem rX(o:Option Int):ba h .IsNot (ov o) .none=some o.isSome:=by cases o<;>rfl
theorem AY(o:Option Int):ba h .Is (ov o) .none=some o.isNone:=by cases o<;>rfl
theorem LN(a b:Option Int):ba h .Eq (ov a) (ov b)=some (a == b):=by
 obtain this:ba h .Eq (ov a) (ov b)=rL (ov a) (ov b):=by cases a<;>cases b<;>rfl
 exact J this<|J (tU _ _) rfl
theorem Ax(hr:r < 1024)(nd:(T.map (·.1)).Nodup)(he:e∈T):aR (hR lo n r T ep) (.ref r) (.int e.1)=some (aH e.2):=by
 (refine J (pM (mB hr) _)<|J (dY _ _)<|J (eS _ _)<|J (jB nd he) ?_);rfl
theorem HE{ep2:Nat}{x:Int}(hr:r < 1024)(r2:r≠2)(e2:lo 2=some (bQ c ep2))(nd:(T.map (·.1)).Nodup)(hT:T.length < 60)(hc:v.2.2.1=some x):
  ∃ks:List Int,ks.length<=200/\(∀i,i∈ks↔ ∃e∈T,e.1=i/\gM c was v e=true)/\∀k,aa O (.fn 33) [.ref 2,.ref r,ov was,aH v] (hR lo n r T ep) k=k (.fl (ks.map V.int)) (hR lo n r T ep):=by
 obtain⟨k1,l1,h1,q1⟩:=Fi (O:=O) (lo:=lo) (n:=n) (ep:=ep) (f:=mt ⟨1,[1],true⟩ was v) (m:=Lx (.ref 2) (.ref r) (ov was) (aH v)) hr nd hT rfl rfl fun e he k=>by refine J (Nv _)<|J (vu _)<|J ab<|J (Im _)<|J ((mq v).1)<|J ab<|J (rX _)<|J ab<|J (Ax hr nd he)<|J ab<|J ((mq e.2).1)<|J ab<|J ab<|J (LN _ _)<|J ab ?_;cases some e.1 != was<;>cases v.2.1.isSome<;>rfl
 obtain⟨k2,l2,h2,q2⟩:=Fi (O:=O) (lo:=lo) (n:=n) (ep:=ep) (f:=fun e=>some e.1 != was && ([e.2.2.2.1,e.2.2.2.2] == [v.2.2.1,v.2.2.2])) (m:=ae (Lx (.ref 2) (.ref r) (ov was) (aH v)) 431349919590 (.fl (k1.map V.int))) hr nd hT rfl rfl fun e he k=>by refine J (OO _)<|J (vu _)<|J ab<|J (Ax hr nd he)<|J ab<|J (vJ _)<|J ab<|J (vJ _)<|J ab ?_;refine(?_ :ay _ (ag (tV rL ([e.2.2.2.1,e.2.2.2.2].map ov) ([v.2.2.1,v.2.2.2].map ov)) _) _=_);refine J (iO _ _)<|J ab ?_;cases some e.1 != was<;>rfl
 obtain pl:aR (hR lo n r T ep) (.ref 2) (.lit 1919508848)=some (.bool c.pair):=by have o2:(hR lo n r T ep).obj 2=some (bQ c ep2):=(kj (by decide)).trans ((bW (fun q=>r2 q.symm)).trans e2);delta aR;refine J (hX o2 _ _)<|J (iM o2) ?_;refine(?_ :aj (iD (hR lo n r T ep) (.ref 2) (rZ (hR lo n r T ep) (.ref 2) none fun Y es Y=>aj (di (.lit 1919508848)) fun k=>some (aL Nat.beq es k)) _) _=_);refine J (dk o2 _ _)<|(?_ :aj (rZ (hR lo n r T ep) (.ref 2) none fun Y es Y=>aj (di (.lit 1919508848)) fun k=>some (aL Nat.beq es k)) _=_);rw [k7 o2];rfl
 have go:∀k,aa O (.fn 33) [.ref 2,.ref r,ov was,aH v] (hR lo n r T ep) k=(if c.pair && v.2.2.2.isSome then k (.fl ((k1++k2).map V.int)) (hR lo n r T ep) else k (.fl (k1.map V.int)) (hR lo n r T ep)):=fun k=>by
  (refine J Pz ?_;(refine J (q1 _) ?_;(refine J pl ?_;rw [ab,(mq v).2,ab,rX,ab,q2])))
  obtain ad:cm (hR lo n r T ep) (.fl (k1.map V.int)) (.fl (k2.map V.int))=some (.fl ((k1++k2).map V.int)):=by refine(?_ :bg (Nat.ble (Nat.add (aq (k1.map V.int)) (aq (k2.map V.int))) 60000) (some (V.fl (DM (k1.map V.int) (k2.map V.int))))=_);(refine J (aw _)<|J (aw _)<|J (QJ _)<|J (QJ _)<|J (fz (by exact ai 0x71800401c500103c0c700204000ea601061400c0003 rfl hT l1 l2)) ?_;refine J (qi _ _)<|J List.map_append ?_);rfl
  refine J ad<|(?_ :ag (some c.pair) _=_);refine J ab ?_;cases c.pair<;>cases v.2.2.2.isSome<;>rfl
 by_cases cp:(c.pair && v.2.2.2.isSome)=true
 ·refine⟨k1++k2,by refine J QI<|ai 0x71800401c500103c0c70020400000c81061400c0003 rfl hT l1 l2,fun i=>?_,fun k=>by(exact J (go _)<|J (QM cp) rfl)⟩;refine xA (aX cp) fun c1 c2=>?_;refine jj List.mem_append<|jj (h1 _)<|jj (h2 _) ?_;constructor
  ·rintro(⟨e,he,ei,hf⟩|⟨e,he,ei,hf⟩)
   ·exact⟨e,he,ei,by(refine J (uZ _ _ _ _)<|J hf ?_);rfl⟩
   ·exact⟨e,he,ei,by(refine J (uZ _ _ _ _) ?_;(refine J (tK e hc) ?_;(refine J c1 ?_;rw [c2,Bool.true_and,Bool.true_and,hf,Bool.or_true])))⟩
  ·rintro⟨e,he,ei,hf⟩;rw [uZ,tK e hc,c1,c2,Bool.true_and,Bool.true_and] at hf;refine Or.elim (Bool.or_eq_true_iff.mp hf) (fun hf=>?_) fun hf=>?_
   ·exact .inl ⟨e,he,ei,hf⟩
   ·exact .inr ⟨e,he,ei,hf⟩
 ·refine⟨k1,by exact ai 0x18500103c0c60010400000c8105080002 rfl hT l1,fun i=>?_,fun k=>by(exact J (go _)<|J (QN cp) rfl)⟩;refine jj (h1 _) ?_;have:∀e,gM c was v e=mt ⟨1,[1],true⟩ was v e:=fun e=>by refine J (uZ _ _ _ _)<|J (tK e hc) ?_;revert cp;cases c.pair<;>cases v.2.2.2.isSome<;>simp
  constructor
  ·rintro⟨e,he,ei,hf⟩;exact⟨e,he,ei,J (this _)<|hf⟩
  ·rintro⟨e,he,ei,hf⟩;exact⟨e,he,ei,aQ (this _)<|hf⟩
end
section
variable{P:List V->Loc->Hp->Prop}
theorem yE:∀(xs:List V) (m:Loc) (h:Hp),(∀x r m h,P (x::r) m h->∃m' h',P r m' h'/\∀kn kb kr,as m h x (fun m h=>bd m h kn kb kr)=kn m' h')->P xs m h->∃m' h',P [] m' h'/\∀kn kr,dw as bd xs.length (.l xs) m h kn kr=kn m' h'
 | [],m,h,_,p=>⟨m,h,p,fun Y Y=>rfl⟩
 |x::xs,m,h,st,p=>by exact dy (st x xs m h p) fun m1 h1 p1 e1=>dy (yE xs m1 h1 st p1) fun m2 h2 p2 e2=>⟨m2,h2,p2,fun kn kr=>(e1 (fun m h=>dw as bd xs.length (.l xs) m h kn kr) kn kr).trans (e2 kn kr)⟩
end
section
variable{lo:Nat->Option aB}{n r ep:Nat}{O:CK}{w:cq}{T:Tb}
theorem rW(T:Tb)(k:Int)(e:T.lookup k=none):eB T k=T:=by
 induction T with
 |nil=>rfl
 |cons a T ih=>
  rw [List.lookup_cons] at e;refine(?_ :(if a.1=k then T else a::eB T k)=_);by_cases h:k=a.1
  ·rw [show(k == a.1)=true from beq_iff_eq.mpr h] at e;exact nn e.symm
  ·rw [show(k == a.1)=false from beq_eq_false_iff_ne.mpr h] at e;exact J (QN fun q=>h q.symm)<|J (ih e) rfl
theorem E_(T:Tb)(k:Int):aD iE k (cy T)=cy (eB T k):=J (pS _ _)<|uE k T
theorem E5(hr:r < 1024):pJ O (hR lo n r T ep) (.ref r) as q=IQ 3 (.ref r) as (hR lo n r T ep) fun Y h=>q h:=by delta pJ;refine J (lS (mB hr) _ _)<|(?_ :ay (j0 3 (.ref r) (hR lo n r T ep)) _ none=_);refine J (show j0 3 (.ref r) (hR lo n r T ep)=true from dk (mB hr) _ _) ?_;rfl
theorem JM(hr:r < 1024)(hT:T.length<=1000)(e:T.lookup key=some v)(q:Hp->KX):pJ O (hR lo n r T ep) (.ref r) [.int key] q=q (hR lo n r (eB T key) (ep+1)):=by refine J (E5 hr)<|(?_ :iD (hR lo n r T ep) (.ref r) none (fun i es ep=>aj (vInt (.int key)) fun j=>aj (aL iE es j) fun v=>bg (Nat.ble (aq es) 60000) (q ((hR lo n r T _).set i (.dI (aD iE j es) (Nat.succ ep)))))=_);refine J (dk (mB hr) _ _)<|(?_ :aj (aL iE (cy T) key) _=_);refine J (dY _ _)<|J (eS _ _)<|J e ?_;refine(?_ :bg (Nat.ble (aq (cy T)) 60000) (q ((hR lo n r T ep).set r (.dI (aD iE key (cy T)) (Nat.succ ep))))=_);(refine J (bT (J (QJ _)<|ai 0x3e810500100000ea60105040001 rfl hT)) ?_;exact J dd<|J (uB hr)<|J gj<|J (E_ _ _) rfl)
theorem EL(hr:r < 1024)(hT:T.length<=1000)(u:Int):∃ep',∀q,pJ O (hR lo n r T ep) (.ref r) [.int u,.none] q=q (hR lo n r (eB T u) ep'):=by
 have e0:∀q:Hp->KX,pJ O (hR lo n r T ep) (.ref r) [.int u,.none] q=@Option.rec V (fun Y=>KX) (q (hR lo n r T ep)) (fun Y=>q (hR lo n r (eB T u) (ep+1))) (aL iE (cy T) u):=fun q=>by refine J (E5 hr)<|(?_ :iD (hR lo n r T ep) (.ref r) none (fun i es ep=>aj (vInt (.int u)) fun j=>bg (Nat.ble (aq es) 60000) (@Option.rec V (fun Y=>KX) (q (hR lo n r T _)) (fun v=>q ((hR lo n r T _).set i (.dI (aD iE j es) (Nat.succ ep)))) (aL iE es j)))=_);refine J (dk (mB hr) _ _)<|(?_ :bg (Nat.ble (aq (cy T)) 60000) (@Option.rec V (fun Y=>KX) (q (hR lo n r T ep)) (fun v=>q ((hR lo n r T ep).set r (.dI (aD iE u (cy T)) (Nat.succ ep)))) (aL iE (cy T) u))=_);(refine J (bT (J (QJ _)<|ai 0x3e810500100000ea60105040001 rfl hT)) ?_;exact J dd<|J (uB hr)<|J gj<|J (E_ _ _) rfl)
 rw [show aL iE (cy T) u=(T.lookup u).map aH by(exact J (dY _ _)<|J (eS _ _) rfl)] at e0;refine iS (T.lookup u) (fun e=>?_) fun v e=>?_
 ·exact⟨ep,fun q=>by(refine J (e0 _)<|J e<|J (rW T u e) ?_);rfl⟩
 ·exact⟨ep+1,fun q=>by(refine J (e0 _)<|J e ?_);rfl⟩
theorem Bt(T:Tb)(k:Int):(eB T k).length<=T.length:=by
 induction T with
 |nil=>exact QR _
 |cons a T ih=>
  refine(?_ :(if a.1=k then T else a::eB T k).length<=_);split
  ·exact Nat.le_succ _
  ·exact Q3 ih
theorem Cn(nd:(T.map (·.1)).Nodup)(k:Int):((eB T k).map (·.1)).Nodup:=by exact J (bF k T nd)<|(List.filter_sublist.map _).nodup nd
theorem vS:∀(ks:List Int) (T:Tb),(T.map (·.1)).Nodup->ks.foldl eB T=T.filter fun e=> !ks.contains e.1
 | [],T,_=>(List.filter_eq_self.mpr fun Y Y=>rfl).symm
 |k::ks,T,nd=>by
  refine J (vS ks _ (Cn nd k))<|J (bF k T nd)<|J List.filter_filter ?_;refine List.filter_congr fun e Y=>(?_ :(!ks.contains e.1 && e.1 != k)= !(e.1 == k || ks.contains e.1))
  delta bne;cases e.1 == k<;>cases ks.contains e.1<;>rfl
structure Jw(m:Loc)(r:Nat)(was:Option Int)(key:Int)(row:V):Prop where
 rw:m 1937207154=some (.ref r)
 ws:m 7561591=some (ov was)
 ky:m 7955819=some (.int key)
 ro:m 7827314=some row
theorem B0(hr:r < 1024)(F:Jw m r was key row)(ks:List Int)(hm:m 7628141=some (.fl (ks.map V.int)))(hT:T.length<=1000):∃m' ep',Jw m' r was key row/\∀kn kb kr,aF O (fq 5) m (hR lo n r T ep) kn kb kr=kn m' (hR lo n r (ks.foldl eB T) ep'):=by
 obtain⟨m',h',⟨p1,p2,p3⟩,e⟩:=yE (as:=hU O (.var false 491327616111)) (bd:=aF O (ja (fq 5))) (P:=fun xs m h=>Jw m r was key row/\∃(js:List Int) (T':Tb) (ep':Nat),xs=js.map V.int/\T'.length<=1000/\js.foldl eB T'=ks.foldl eB T/\h=hR lo n r T' ep') (ks.map V.int) m (hR lo n r T ep) (fun x xs m h ⟨f,js,T',ep',h1,h2,h3,h4⟩=>by
  cases js with
  |nil=>exact nomatch h1
  |cons j js=>
   injection h1 with h0 h5
   subst h0 h4;refine xE (EL (O:=O) (lo:=lo) (n:=n) (ep:=ep') hr h2 j) fun ep2 g=>⟨ae m 491327616111 (.int j),_,⟨⟨f.rw,f.ws,f.ky,f.ro⟩,js,eB T' j,ep2,h5,Nat.le_trans (Bt _ _) h2,h3,rfl⟩,fun kn kb kr=>?_⟩
   have z:=Hd (O:=O) (m:=m) (h:=hR lo n r T' ep') (kn:=kn) (kb:=kb) (kr:=kr) (rw:=.ref r) (.int j);rw [aM f.rw,g] at z;exact z) ⟨F,ks,T,ep,rfl,hT,rfl,rfl⟩
 refine br p3 fun T' ep' h1 h2 h3 h4=>?_
 match p2,h1 with
 | [],_=>subst h4;refine⟨m',ep',p1,fun kn kb kr=>?_⟩;refine J JR<|J hm<|J ab<|J (iP _)<|J (e _ _) ?_;refine aQ h3 ?_;rfl
set_option tactic.hygienic true in
theorem Kn(e:tN c w v=.ok v2):∃x,v2.2.2.1=some x:=by
 obtain t:∀{v v2:bz},gm w v=.ok v2->v2=v:=fun{v v2} e=>by
  delta gm at e;split at e
  ·split at e
   ·exact px e
   ·obtain rfl:=Except.ok.inj e;rfl
  ·obtain rfl:=Except.ok.inj e;rfl
 delta tN at e;split at e
 ·exact px e
 ·rename_i v1 e1;obtain rfl:=t e;delta dG at e1;split at e1
  ·obtain rfl:=Except.ok.inj e1;exact⟨_,‹_›⟩
  ·split at e1
   ·exact px e1
   ·split at e1
    ·obtain rfl:=Except.ok.inj e1;exact⟨_,rfl⟩
    ·exact px e1
end
section
variable{lo:Nat->Option aB}{n r ep ep2:Nat}{O:CK}{c:fZ}{w:cq}{T:Tb}
noncomputable def fR(was:Option Int)(T:Tb):Tb:=match was with
 |none=>T
 |some u=>T.filter fun e=>e.1 != u
noncomputable def qK(c:fZ)(w:cq)(T:Tb)(was:Option Int)(key:Int)(v2:bz):Except (Option Nat) (Tb×bz):=
 if aY w || !T.any (i8 key was) then
  let T1:=T.filter fun e=> !i8 key was e
  if aY w || !(oj c).any (fun x=>T1.any (mt x was v2)) then .ok (T1.filter fun e=> !(oj c).any fun x=>mt x was v2 e,v2)
  else .error (lu w 45)
 else .error (lu w 43)
theorem pI:d6 c w T was key v=match tN c w v with|.error e=>.error e|.ok v2=>qK c w T was key v2:=by
 delta d6 tN;refine Qm (dG c w v) (fun e=>?_) fun v1=>?_
 ·rfl
 ·rfl
theorem Qc:I' w kd kr h=kr (.fl [vi 0,lC (lu w kd)]) h:=rfl
theorem inR(hr:r < 1024):ba (hR lo n r T ep) .In (.int key) (.ref r)=some (T.lookup key).isSome:=by refine(?_ :isIn (hR lo n r T ep) (.int key) (.ref r)=_);delta isIn;refine J (iM (mB hr))<|(?_ :aj (iD (hR lo n r T ep) (.ref r) (rZ (hR lo n r T ep) (.ref r) none fun Y es Y=>aj (di (.int key)) fun k=>some (aL Nat.beq es k)) fun Y es Y=>aj (vInt (.int key)) fun k=>some (aL iE es k)) _=_);refine J (dk (mB hr) _ _)<|(?_ :some (aL iE (cy T) key).isSome=_);refine J (dY _ _)<|J (eS _ _) ?_;cases T.lookup key<;>rfl
theorem IE(hr:r < 1024)(nd:(T.map (·.1)).Nodup)(hT:T.length<=1000):∃ep',∀kn kb kr,aF O (fq 2) (tv (.ref 2) (.ref r) (ov was) (.int key) row w a b) (hR lo n r T ep) kn kb kr=
  if aY w || !T.any (i8 key was) then kn (tv (.ref 2) (.ref r) (ov was) (.int key) row w a b) (hR lo n r (T.filter fun e=> !i8 key was e) ep') else I' w 43 kr (hR lo n r T ep):=by
 by_cases hw:was=some key
 ·refine xA (v_ (T:=T) hw) fun h1 h2=>⟨ep,fun kn kb kr=>?_⟩
  refine J zi<|J (inR hr)<|J ab<|J (vu _)<|J ab<|J h1<|J h2<|J hw<|J (show(some key != some key)=false by simp) ?_;cases (T.lookup key).isSome<;>cases aY w<;>rfl
 ·refine xA (kQ hw nd) fun h1 h2=>?_;obtain nw:(some key != was)=true:=by simpa using fun q=>hw q.symm
  refine iS (T.lookup key) (fun e=>?_) fun v0 e=>?_
  ·refine⟨ep,fun kn kb kr=>?_⟩;refine J zi<|J (inR hr)<|J ab<|J h1<|J h2<|J e<|J (rW T key e) ?_;cases aY w<;>rfl
  ·refine⟨ep+1,fun kn kb kr=>?_⟩;refine J zi<|J (inR hr)<|J ab<|J (vu _)<|J ab<|J h1<|J h2<|J e<|J nw<|J (JM hr hT e _) ?_;cases aY w<;>rfl
theorem Ic{T1:Tb}{v2:bz}:(oj c).any (fun x=>T1.any (mt x was v2))=T1.any (gM c was v2):=by
 delta gM;refine jj Bool.eq_iff_iff<|jj List.any_eq_true<|jj List.any_eq_true ?_;constructor
 ·rintro⟨x,hx,h⟩;exact an (List.any_eq_true.mp h) fun e he h=>⟨e,he,List.any_eq_true.mpr ⟨x,hx,h⟩⟩
 ·rintro⟨e,he,h⟩;exact an (List.any_eq_true.mp h) fun x hx h=>⟨x,hx,List.any_eq_true.mpr ⟨e,he,h⟩⟩
theorem Ih{row:V}{m:Loc}(hr:r < 1024)(F:Jw m r was key row)(nd:(T.map (·.1)).Nodup)(hT:T.length<=1000):∃ep',∀kn kb kr,aF O (fq 6) m (hR lo n r T ep) kn kb kr=kn m (hR lo n r (fR was T) ep'):=by
 cases was with
 |none=>refine⟨ep,fun kn kb kr=>?_⟩;have z:=F4 (O:=O) (h:=hR lo n r T ep) (kn:=kn) (kb:=kb) (kr:=kr) F.ws;obtain z:=(aM F.ws)▸z;exact z
 |some u=>
  refine xE (EL (O:=O) (lo:=lo) (n:=n) (ep:=ep) hr hT u) fun ep' g=>⟨ep',fun kn kb kr=>?_⟩
  have z:=JD (O:=O) (m:=m) (h:=hR lo n r T ep) (kn:=kn) (kb:=kb) (kr:=kr) (rw:=.ref r) u
  (obtain z:=(aM F.rw)▸z;obtain z:=(aM (v:=.int u) F.ws)▸z;obtain z:=(g _)▸z;obtain z:=(bF u T nd)▸z)
  exact z
def F_(O:CK)(lo:Nat->Option aB)(n r:Nat)(w:cq)(T:Tb)(ep:Nat)(was:Option Int)(key:Int)(v:bz):Except (Option Nat) (Tb×bz)->Prop
 |.ok (T2,v2)=>∃ep',∀k,aa (aa O) (.fn 35) [.ref 2,.ref r,ov was,.int key,aH v,.lit (bh w)] (hR lo n r T ep) k=k (.fl [vi 1,.none]) (hR lo n r (fR was T2++ [(key,v2)]) ep')
 |.error e=>∃ep',∀k,aa (aa O) (.fn 35) [.ref 2,.ref r,ov was,.int key,aH v,.lit (bh w)] (hR lo n r T ep) k=k (.fl [vi 0,lC e]) (hR lo n r T ep')
theorem BE(hr:r < 1024)(r2:r≠2)(e2:lo 2=some (bQ c ep2))(nd:(T.map (·.1)).Nodup)(hT:T.length<=50):F_ O lo n r w T ep was key v (d6 c w T was key v):=by
 obtain e2':=(bW fun q=>r2 q.symm).trans e2;have st:∀k,aa (aa O) (.fn 35) [.ref 2,.ref r,ov was,.int key,aH v,.lit (bh w)] (hR lo n r T ep) k=cr (aa O) [.var false 7827314,.var false 1684957547] (Ly (.ref 2) (.ref r) (ov was) (.int key) (aH v) w) (hR lo n r T ep) (MX (tN c w v)) fun m h=>aF (aa O) (.seq (fq 1) (.seq (fq 2) (.seq (fq 3) (.seq (fq 4) (.seq (fq 5) (.seq (fq 6) (.seq (fq 7) (.seq (fq 8) .skip)))))))) m h (fun Y h=>k .none h) (fun Y Y=>none) k:=fun k=>by refine J (Os _)<|J (PC _ _)<|J Ds<|J aN ?_;exact K'.trans<|J (Qe e2') rfl
 refine J pI<|qX (tN c w v) (fun e hv=>?_) fun v2 hv=>?_
 ·refine⟨ep,fun k=>?_⟩;refine J (st _)<|J hv ?_;(refine J A3<|J aN<|J EC ?_);rfl
 ·rw [hv] at st;refine xE (Kn hv) fun x hx=>?_;let m1:=tv (.ref 2) (.ref r) (ov was) (.int key) (aH v) w (aH v2) .none;have st2:∀k,aa (aa O) (.fn 35) [.ref 2,.ref r,ov was,.int key,aH v,.lit (bh w)] (hR lo n r T ep) k=aF (aa O) (fq 2) m1 (hR lo n r T ep) (fun m h=>aF (aa O) (.seq (fq 3) (.seq (fq 4) (.seq (fq 5) (.seq (fq 6) (.seq (fq 7) (.seq (fq 8) .skip)))))) m h (fun Y h=>k .none h) (fun Y Y=>none) k) (fun Y Y=>none) k:=fun k=>by refine J (st _)<|(?_ :cr _ _ _ _ (.fl [aH v2,.none]) _=_);(refine J A3<|J aN<|J EC ?_);rfl
  refine xE (IE (O:=aa O) (lo:=lo) (n:=n) (ep:=ep) (was:=was) (key:=key) (w:=w) (a:=aH v2) (b:=.none) (row:=aH v) hr nd (ai 0x320c50010000003e8105040001 rfl hT)) fun ep3 g2=>(?_ :F_ O lo n r w T ep was key v (qK c w T was key v2))
  delta qK;by_cases c1:(aY w || !T.any (i8 key was))=true
  ·refine J (QM c1) ?_;have nd1:((T.filter fun e=> !i8 key was e).map (·.1)).Nodup:=(List.filter_sublist.map _).nodup nd;have l1:(T.filter fun e=> !i8 key was e).length<=50:=QQ (List.length_filter_le _ _) hT;have no1:was≠some key->key ∉ (T.filter fun e=> !i8 key was e).map (·.1):=fun hw=>by refine J ((kQ hw nd).2)<|J (bF key T nd) ?_;intro hk;refine an (List.mem_map.mp hk) fun e he ee=>?_;have:=(List.mem_filter.mp he).2;rw [ee] at this;simp at this
   have same1:aY w=false->(T.filter fun e=> !i8 key was e)=T:=fun hw=>by rw [hw,Bool.false_or] at c1;refine List.filter_eq_self.mpr fun e he=>?_;have:=List.any_eq_false.mp (tT c1) e he;simpa using this
   generalize hT1:(T.filter fun e=> !i8 key was e)=T1 at nd1 l1 no1 same1 g2;refine bP (HE (n:=n) (ep:=ep3) (O:=O) (was:=was) hr r2 e2 nd1 (ai 0x320c500103c0c5040041 rfl l1) hx) fun ks k1 k2 k3=>?_
   have st3:∀k,aa (aa O) (.fn 35) [.ref 2,.ref r,ov was,.int key,aH v,.lit (bh w)] (hR lo n r T ep) k=aF (aa O) (fq 4) (ae m1 7628141 (.fl (ks.map V.int))) (hR lo n r T1 ep3) (fun m h=>aF (aa O) (.seq (fq 5) (.seq (fq 6) (.seq (fq 7) (.seq (fq 8) .skip)))) m h (fun Y h=>k .none h) (fun Y Y=>none) k) (fun Y Y=>none) k:=fun k=>by
    (refine J (st2 _)<|J (g2 _ _ _)<|J (QM c1)<|J aN<|J LS<|J (k3 _) ?_);rfl
   have em:ba (hR lo n r T1 ep3) .NotEq (.fl (ks.map V.int)) (.fl [])=some (!ks.isEmpty):=by cases ks<;>rfl
   have eg:(oj c).any (fun x=>T1.any (mt x was v2))= !ks.isEmpty:=by
    refine J Ic<|jj Bool.eq_iff_iff<|jj List.any_eq_true ?_;constructor
    ·rintro⟨e,he,h⟩;have:=(k2 e.1).mpr ⟨e,he,rfl,h⟩
     cases ks with
     |nil=>exact nomatch this
     |cons=>rfl
    ·intro h
     cases ks with
     |nil=>exact nomatch h
     |cons a ks=>refine bP ((k2 a).mp (.head _)) fun e he Y h=>?_;exact⟨e,he,h⟩
   refine(?_ :F_ O lo n r w T ep was key v (if aY w || !(oj c).any (fun x=>T1.any (mt x was v2)) then .ok (T1.filter fun e=> !gM c was v2 e,v2) else .error (lu w 45)));refine J eg ?_;by_cases c2:(aY w || !!ks.isEmpty)=true
   ·refine J (QM c2) ?_;have F:Jw (ae m1 7628141 (.fl (ks.map V.int))) r was key (aH v2):=⟨rfl,rfl,rfl,rfl⟩
    refine dy (B0 (O:=aa O) (lo:=lo) (n:=n) (ep:=ep3) hr F ks rfl (ai 0x320c50010000003e8105040001 rfl l1)) fun m2 ep4 F2 g5=>?_
    have fT:ks.foldl eB T1=T1.filter fun e=> !gM c was v2 e:=by
     refine J (vS ks T1 nd1)<|List.filter_congr fun e he=>?_;congr 1;refine jj Bool.eq_iff_iff<|jj List.contains_iff_mem<|jj (k2 _) ?_;constructor
     ·rintro⟨e',he',ee,h⟩;have:=jB nd1 he'
      (obtain this:=ee▸this;obtain this:=(jB nd1 he)▸this)
      injection this with this
      have:e'=e:=Prod.ext ee this.symm;exact aQ this<|h
     ·exact fun h=>⟨e,he,rfl,h⟩
    rw [fT] at g5;have nd2:((T1.filter fun e=> !gM c was v2 e).map (·.1)).Nodup:=(List.filter_sublist.map _).nodup nd1;have l2:(T1.filter fun e=> !gM c was v2 e).length<=50:=QQ (List.length_filter_le _ _) l1
    have no2:key ∉ (fR was (T1.filter fun e=> !gM c was v2 e)).map (·.1):=by
     by_cases hw:was=some key
     ·refine J hw ?_;intro hk;refine an (List.mem_map.mp hk) fun e he ee=>?_;have:=(List.mem_filter.mp he).2;rw [ee] at this;simp at this
     ·intro hk;refine no1 hw ?_
      have sub:∀e∈fR was (T1.filter fun e=> !gM c was v2 e),e∈T1:=fun e he=>by
       cases was with
       |none=>exact(List.mem_filter.mp he).1
       |some u=>exact(List.mem_filter.mp (List.mem_filter.mp he).1).1
      exact an (List.mem_map.mp hk) fun e he ee=>List.mem_map.mpr ⟨e,sub e he,ee⟩
    have l3:(fR was (T1.filter fun e=> !gM c was v2 e)).length<=50:=by
     cases was with
     |none=>exact l2
     |some u=>exact QQ (List.length_filter_le _ _) l2
    generalize (T1.filter fun e=> !gM c was v2 e)=T2 at g5 nd2 l2 no2 l3;refine xE (Ih (O:=aa O) (lo:=lo) (n:=n) (ep:=ep4) hr F2 nd2 (ai 0x320c50010000003e8105040001 rfl l2)) fun ep5 g6=>⟨qs (aL iE (cy (fR was T2)) key) ep5,fun k=>?_⟩
    refine J (st3 _)<|J Ev<|J em<|J ab ?_;obtain pv:eP (hR lo n r (fR was T2) ep5) (.ref r) (.int key) (aH v2)=some (hR lo n r (fR was T2++ [(key,v2)]) (qs (aL iE (cy (fR was T2)) key) ep5)):=by delta eP;refine J (hX (mB hr) _ _)<|(?_ :iD (hR lo n r (fR was T2) ep5) (.ref r) (rZ (hR lo n r (fR was T2) ep5) (.ref r) none fun j es ep=>aj (di (.int key)) fun k=>bg (Nat.ble (aq es) 60000) (some ((hR lo n r (fR was T2) ep5).set j (.dL (aP Nat.beq k (aH v2) es) (qs (aL Nat.beq es k) ep))))) (fun j es ep=>aj (vInt (.int key)) fun k=>bg (Nat.ble (aq es) 60000) (some ((hR lo n r (fR was T2) ep5).set j (.dI (aP iE k (aH v2) es) (qs (aL iE es k) ep)))))=_);refine J (dk (mB hr) _ _)<|(?_ :bg (Nat.ble (aq (cy (fR was T2))) 60000) (some ((hR lo n r (fR was T2) ep5).set r (.dI (aP iE key (aH v2) (cy (fR was T2))) (qs (aL iE (cy (fR was T2)) key) ep5))))=_);(refine J (bT (J (QJ _)<|ai 0x320c500100000ea60105040001 rfl l3)) ?_;refine J dd<|J (uB hr)<|J gj<|J (qq _ _ _)<|J (ms key (aH v2) (cy (fR was T2)) (J QZ<|no2)) ?_);exact J (show cy (fR was T2)++ [(key,aH v2)]=cy (fR was T2++ [(key,v2)]) from(List.map_append (l₂:= [(key,v2)])).symm) rfl
    obtain fin:aF (aa O) (.seq (fq 5) (.seq (fq 6) (.seq (fq 7) (.seq (fq 8) .skip)))) (ae m1 7628141 (.fl (ks.map V.int))) (hR lo n r T1 ep3) (fun Y h=>k .none h) (fun Y Y=>none) k=k (.fl [vi 1,.none]) (hR lo n r (fR was T2++ [(key,v2)]) (qs (aL iE (cy (fR was T2)) key) ep5)):=by
     refine J aN<|J (g5 _ _ _)<|J aN<|J (g6 _ _ _)<|J aN ?_;have z:=LA (O:=aa O) (m:=m2) (h:=hR lo n r (fR was T2) ep5) (kn:=fun m h=>aF (aa O) (.seq (fq 8) .skip) m h (fun Y h=>k .none h) (fun Y Y=>none) k) (kb:=fun Y Y=>none) (kr:=k) (rw:=.ref r) (key:=.int key) (a:=aH v2)
     (obtain z:=(aM F2.rw)▸z;obtain z:=(aM F2.ky)▸z;obtain z:=(aM F2.ro)▸z;obtain z:=pv▸z;obtain z:=ab▸z;obtain z:=aN▸z;obtain z:=Lr▸z)
     exact z
    obtain z:∀A B:KX,aY w=true\/ks.isEmpty=true->ay (xor (!ks.isEmpty) false) (@Bool.rec (fun Y=>KX) A B (aY w)) (ay (!ks.isEmpty) A B)=B:=fun A B h=>by
     refine Or.elim h (fun h=>?_) fun h=>?_
     ·refine J h ?_;cases ks.isEmpty<;>rfl
     ·refine J h ?_;rfl
    exact J (z _ _ (by simpa using c2))<|fin
   ·refine J (QN c2) ?_;have c3:aY w=false/\ks.isEmpty=false:=by simpa using c2
    refine⟨ep3,fun k=>?_⟩;(refine J (st3 _)<|J Ev<|J em<|J ab<|J c3.1<|J c3.2<|J (same1 c3.1) ?_);rfl
  ·refine J (QN c1)<|⟨ep,fun k=>?_⟩;(refine J (st2 _)<|J (g2 _ _ _)<|J (QN c1) ?_);rfl
end
section
variable{O:CK}
def I4(n:Nat):S:=dZ (k9 n (lE 36))
def I7(n:Nat):S:=dZ (k9 n (lE 37))
def mr:S:=ja (I4 1)
def v8:S:=ja (I7 1)
def mI(m:Loc)(pl rw wy mn:V):Loc:=ae (ae (ae (ae m 1851878512 pl) 1937207154 rw) 7954807 wy) 2037277037 mn
def zx(m:Loc)(pl rw wy mn a b c d:V):Loc:=ae (ae (ae (ae (mI m pl rw wy mn) 97 a) 98 b) 99 c) 100 d
def O8(O:CK)(m:Loc)(pl rw wy mn a b c d:V)(kn kb:KL)(kr:KV)(f:Bool)(key:V)(h:Hp):KX:=ag (aR h pl (.lit 431199184235)) fun p=>ag (gU h p) fun t=>ay t
 (O (.fn 35) [pl,rw,.none,key,.tup [key,b,c,d],wy] h fun v h=>cr O [.var false 1701998445,.var false 1684957547] (ae (ae (zx m pl rw wy mn a b c d) 448612627046 (.bool f)) 7955819 key) h v fun m h=>aF O (k9 3 mr) m h kn kb kr)
 (O (.fn 35) [pl,rw,.none,key,.tup [a,b,c,d],wy] h fun v h=>cr O [.var false 1701998445,.var false 1684957547] (ae (ae (zx m pl rw wy mn a b c d) 448612627046 (.bool f)) 7955819 key) h v fun m h=>aF O (k9 3 mr) m h kn kb kr)
def QA(O:CK)(m:Loc)(pl rw wy mn a b c d:V)(h:Hp)(kn kb:KL)(kr:KV)(f:Bool):KX:=ay f (eV 4 rw h fun l h=>ag (cm h (.fl [vi 0]) l) fun z=>eV 2 z h fun x h=>ag (cm h x (vi 1)) fun y=>O8 O m pl rw wy mn a b c d kn kb kr f y h) (O8 O m pl rw wy mn a b c d kn kb kr f a h)
theorem Mt(T:S):aF O (.seq (dZ mr) (.seq (dZ (dm mr)) T)) (zx m pl rw wy mn a b c d) h kn kb kr=ag (ba h .Is a .none) fun b1=>ay (xor b1 true) (ag (aR h pl (.lit 431199184235)) fun p=>ag (gU h p) fun t=>ay (not t) (eV 4 rw h fun l h=>ag (cm h (.fl [vi 0]) l) fun z=>eV 2 z h fun x h=>ag (cm h x (vi 1)) fun y=>aF O T (ae (ae (zx m pl rw wy mn a b c d) 448612627046 (.bool (not t))) 7955819 y) h kn kb kr) (aF O T (ae (ae (zx m pl rw wy mn a b c d) 448612627046 (.bool (not t))) 7955819 a) h kn kb kr))
  (ay b1 (eV 4 rw h fun l h=>ag (cm h (.fl [vi 0]) l) fun z=>eV 2 z h fun x h=>ag (cm h x (vi 1)) fun y=>aF O T (ae (ae (zx m pl rw wy mn a b c d) 448612627046 (.bool b1)) 7955819 y) h kn kb kr) (aF O T (ae (ae (zx m pl rw wy mn a b c d) 448612627046 (.bool b1)) 7955819 a) h kn kb kr)):=by kernel_rfl
def Ip(m:Loc)(pl rw wy mn a b c d f key:V):Loc:=ae (ae (zx m pl rw wy mn a b c d) 448612627046 f) 7955819 key
theorem KB(f:V):aF O (dZ (k9 2 mr)) (Ip m pl rw wy mn a b c d f key) h kn kb kr=ag (aR h pl (.lit 431199184235)) fun p=>ag (gU h p) fun t=>ay t
  (O (.fn 35) [pl,rw,.none,key,.tup [key,b,c,d],wy] h fun v h=>cr O [.var false 1701998445,.var false 1684957547] (Ip m pl rw wy mn a b c d f key) h v kn)
  (O (.fn 35) [pl,rw,.none,key,.tup [a,b,c,d],wy] h fun v h=>cr O [.var false 1701998445,.var false 1684957547] (Ip m pl rw wy mn a b c d f key) h v kn):=by kernel_rfl
theorem xS:cr O [.var false 1701998445,.var false 1684957547] m h (.fl [x,y]) kn=kn (ae (ae m 1701998445 x) 1684957547 y) h:=by kernel_rfl
theorem JW:aF O (k9 3 mr) (ae (ae (ae m 2037277037 mn) 1701998445 x) 1684957547 y) h kn kb kr=ag (cm h mn x) fun z=>ag (ba h .IsNot y .none) fun b=>ay b (kr (.fl [z,y]) h) (kn (ae (ae (ae (ae m 2037277037 mn) 1701998445 x) 1684957547 y) 2037277037 z) h):=by kernel_rfl
theorem FE:mr=.seq (dZ mr) (.seq (dZ (dm mr)) (.seq (dZ (k9 2 mr)) (k9 3 mr))):=by kernel_rfl
def Lb:FR:=@Option.rec FR (fun Y=>FR) ⟨[],.bad⟩ (fun r=>r) (tn 36)
theorem Qt(dr:V)(T:S):bG O ⟨Lb.ps,.seq (I4 0) T⟩ [pl,rw,dr,wy] h k=aF O T (ae (ae (ae (ae (ae (fun Y=>none) 1851878512 pl) 1937207154 rw) 474449277540 dr) 7954807 wy) 2037277037 (vi 0)) h (fun Y h=>k .none h) (fun Y Y=>none) k:=by kernel_rfl
theorem NV(xs:List V):aa O (.fn 36) xs h k=bG O ⟨Lb.ps,lE 36⟩ xs h k:=by kernel_rfl
noncomputable def pW:List T:= [.var false 97,.var false 98,.var false 99,.var false 100]
theorem G2:lE 36=.seq (I4 0) (.seq (.for2 pW (.var 474449277540) mr) (.seq (I4 2) .skip)):=by kernel_rfl
theorem JC:aF O (I4 2) (ae m 2037277037 mn) h kn kb kr=kr (.fl [mn,.none]) h:=by kernel_rfl
theorem KC(r:bz):cr O pW m h (aH r) kn=kn (ae (ae (ae (ae m 97 (ov r.1)) 98 (ov r.2.1)) 99 (ov r.2.2.1)) 100 (ov r.2.2.2)) h:=by kernel_rfl
def mU(m:Loc)(pl rw wy mn was row:V):Loc:=ae (ae (mI m pl rw wy mn) 7561591 was) 7827314 row
theorem LH:aF O v8 (mU m pl rw wy mn was row) h kn kb kr=ag (ba h .In was rw) fun b=>ay b (ag (aR h pl (.lit 431199184235)) fun p=>ag (gU h p) fun t=>ay t
  (ag (aR h row (vi 0)) fun x=>O (.fn 35) [pl,rw,was,x,row,wy] h fun v h=>cr O [.var false 1701998445,.var false 1684957547] (mU m pl rw wy mn was row) h v fun m h=>aF O (dm (ja (dZ v8))) m h kn kb kr)
  (O (.fn 35) [pl,rw,was,was,row,wy] h fun v h=>cr O [.var false 1701998445,.var false 1684957547] (mU m pl rw wy mn was row) h v fun m h=>aF O (dm (ja (dZ v8))) m h kn kb kr)) (kn (mU m pl rw wy mn was row) h):=by kernel_rfl
theorem JS:aF O (dm (ja (dZ v8))) (ae (ae (ae m 2037277037 mn) 1701998445 x) 1684957547 y) h kn kb kr=ag (cm h mn x) fun z=>ag (ba h .IsNot y .none) fun b=>ay b (kr (.fl [z,y]) h) (kn (ae (ae (ae (ae m 2037277037 mn) 1701998445 x) 1684957547 y) 2037277037 z) h):=by kernel_rfl
def Kl:FR:=@Option.rec FR (fun Y=>FR) ⟨[],.bad⟩ (fun r=>r) (tn 37)
theorem PD(dr:V)(T:S):bG O ⟨Kl.ps,.seq (I7 0) T⟩ [pl,rw,dr,wy] h k=aF O T (ae (ae (ae (ae (ae (fun Y=>none) 1851878512 pl) 1937207154 rw) 32481117229639779 dr) 7954807 wy) 2037277037 (vi 0)) h (fun Y h=>k .none h) (fun Y Y=>none) k:=by kernel_rfl
theorem NJ(xs:List V):aa O (.fn 37) xs h k=bG O ⟨Kl.ps,lE 37⟩ xs h k:=by kernel_rfl
noncomputable def sJ:List T:= [.var false 7561591,.var false 7827314]
theorem Hs:lE 37=.seq (I7 0) (.seq (.for2 sJ (.var 32481117229639779) v8) (.seq (I7 2) .skip)):=by kernel_rfl
theorem JY:aF O (I7 2) (ae m 2037277037 mn) h kn kb kr=kr (.fl [mn,.none]) h:=by kernel_rfl
theorem Oa:cr O sJ m h (.tup [was,row]) kn=kn (ae (ae m 7561591 was) 7827314 row) h:=by kernel_rfl
end
section
variable{lo:Nat->Option aB}{n r ep ep2 mn:Nat}{O:CK}{w:cq}{T:Tb}
structure FI(m:Loc)(r:Nat)(w:cq)(mn:Nat):Prop where
 pl:m 1851878512=some (.ref 2)
 rw:m 1937207154=some (.ref r)
 wy:m 7954807=some (.lit (bh w))
 mn:m 2037277037=some (vi mn)
theorem FI.eq(F:FI m r w mn):mI m (.ref 2) (.ref r) (.lit (bh w)) (vi mn)=m:=by delta mI;exact J (aM F.pl)<|J (aM F.rw)<|J (aM F.wy)<|J (aM F.mn) rfl
theorem KZ(hr:r < 1024)(hT:T.length<=1000)(q:V->Hp->KX):eV 4 (.ref r) (hR lo n r T ep) (fun l h=>ag (cm h (.fl [vi 0]) l) fun z=>eV 2 z h fun x h=>ag (cm h x (vi 1)) fun y=>q y h)=q (.int (fU T)) (hR lo n r T ep):=by
 refine(?_ :iD (hR lo n r T ep) (.ref r) none (fun Y es Y=>bg (Nat.ble (aq es) 60000) (ag (cm (hR lo n r T ep) (.fl [vi 0]) (.fl (dq (fun e=>.int e.1) es))) fun z=>eV 2 z (hR lo n r T ep) fun x h=>ag (cm h x (vi 1)) fun y=>q y h))=_);refine J (dk (mB hr) _ _)<|(?_ :bg (Nat.ble (aq (cy T)) 60000) (ag (cm (hR lo n r T ep) (.fl [vi 0]) (.fl (dq (fun e=>.int e.1) (cy T)))) fun z=>eV 2 z (hR lo n r T ep) fun x h=>ag (cm h x (vi 1)) fun y=>q y h)=_);obtain e0:dq (fun e:Int×V=>V.int e.1) (cy T)=(T.map (·.1)).map V.int:=by(refine J (dz _ _)<|J QZ<|J QZ ?_);rfl
 (refine J (bT (J (QJ _)<|ai 0x3e810500100000ea60105040001 rfl hT)) ?_;refine J dd<|J e0 ?_)
 obtain e1:cm (hR lo n r T ep) (.fl [vi 0]) (.fl ((T.map (·.1)).map V.int))=some (.fl ((0::T.map (·.1)).map V.int)):=by refine(?_ :bg (Nat.ble (Nat.add 1 (aq ((T.map (·.1)).map V.int))) 60000) (some (V.fl ((0::T.map (·.1)).map V.int)))=_);(refine J (aw _)<|J (QJ _)<|J (QJ _)<|J (fz (by exact ai 0xfa041400400003a98041410c0040001 rfl hT)) ?_);rfl
 refine J e1<|J ab ?_;refine(?_ :aj (o0 ((0::T.map (·.1)).map V.int)) (fun is=>bg (Nat.ble (aq ((0::T.map (·.1)).map V.int)) 60000) (@List.casesOn Int (fun Y=>KX) is none fun i r=>ag (cm (hR lo n _ T ep) (.int (hM r i)) (vi 1)) fun y=>q y (hR lo n _ T ep)))=_);refine J (qa _)<|J (bT (by(refine J (QJ _)<|J QK<|J (QJ _) ?_);exact ai 0xfa041400400003a9804043140040001 rfl hT)) ?_;refine(?_ :q (.int (hM (T.map (·.1)) 0+1)) _=_);refine J (ub _ _) ?_;rfl
theorem v6(hr:r < 1024)(r2:r≠2)(e2:lo 2=some (bQ c ep2)):aR (hR lo n r T ep) (.ref 2) (.lit 431199184235)=some (.bool c.keyed):=by have o2:(hR lo n r T ep).obj 2=some (bQ c ep2):=(kj (by decide)).trans ((bW (fun q=>r2 q.symm)).trans e2);delta aR;refine J (hX o2 _ _)<|J (iM o2) ?_;refine(?_ :aj (iD (hR lo n r T ep) (.ref 2) (rZ (hR lo n r T ep) (.ref 2) none fun Y es Y=>aj (di (.lit 431199184235)) fun k=>some (aL Nat.beq es k)) fun Y es Y=>aj (vInt (.lit 431199184235)) fun k=>some (aL iE es k)) (fun o=>o)=_);refine J (dk o2 _ _)<|(?_ :aj (rZ (hR lo n r T ep) (.ref 2) none fun Y es Y=>aj (di (.lit 431199184235)) fun k=>some (aL Nat.beq es k)) (fun o=>o)=_);refine J (k7 o2 _ _) ?_;rfl
theorem BR(hr:r < 1024)(r2:r≠2)(e2:lo 2=some (bQ c ep2))(hT:T.length<=1000)(F:FI m r w mn):∃m',FI m' r w mn/\∀kn kb kr,cr O pW m (hR lo n r T ep) (aH v) (fun m h=>aF O mr m h kn kb kr)=
  O (.fn 35) [.ref 2,.ref r,ov none,.int (a_ c T v),aH (bN c T v),.lit (bh w)] (hR lo n r T ep) fun x h=>cr O [.var false 1701998445,.var false 1684957547] m' h x fun m h=>aF O (k9 3 mr) m h kn kb kr:=by
 obtain⟨a,b,x,d⟩:=v;let m4:=zx m (.ref 2) (.ref r) (.lit (bh w)) (vi mn) (ov a) (ov b) (ov x) (ov d);have e4:∀kn:KL,cr O pW m (hR lo n r T ep) (aH (a,b,x,d)) kn=kn m4 (hR lo n r T ep):=fun kn=>by refine J (KC _)<|(?_ :_=kn (zx m _ _ _ _ _ _ _ _) _);delta zx;exact J F.eq rfl
 have kk:=v6 (n:=n) (T:=T) (ep:=ep) hr r2 e2
 have fin:∀f:V,(∀kn kb kr,aF O (dZ (k9 2 mr)) (Ip m (.ref 2) (.ref r) (.lit (bh w)) (vi mn) (ov a) (ov b) (ov x) (ov d) f (.int (a_ c T (a,b,x,d)))) (hR lo n r T ep) kn kb kr=O (.fn 35) [.ref 2,.ref r,ov none,.int (a_ c T (a,b,x,d)),aH (bN c T (a,b,x,d)),.lit (bh w)] (hR lo n r T ep) fun y h=>cr O [.var false 1701998445,.var false 1684957547] (Ip m (.ref 2) (.ref r) (.lit (bh w)) (vi mn) (ov a) (ov b) (ov x) (ov d) f (.int (a_ c T (a,b,x,d)))) h y kn):=fun f kn kb kr=>by
  refine J (KB _)<|J kk<|J ab ?_;refine J ab<|fE c.keyed (fun hk=>?_) fun hk=>?_
  ·refine J iI ?_;have:aH (bN c T (a,b,x,d))=.tup [.int (a_ c T (a,b,x,d)),ov b,ov x,ov d]:=by delta bN;refine J hk ?_;rfl
   refine J this ?_;rfl
  ·refine J mE ?_;have:aH (bN c T (a,b,x,d))=.tup [ov a,ov b,ov x,ov d]:=by delta bN;refine J hk ?_;rfl
   refine J this ?_;rfl
 obtain F6:∀f:V,FI (Ip m (.ref 2) (.ref r) (.lit (bh w)) (vi mn) (ov a) (ov b) (ov x) (ov d) f (.int (a_ c T (a,b,x,d)))) r w mn:=fun f=>⟨rfl,rfl,rfl,rfl⟩
 have main:∀kn kb kr,aF O mr m4 (hR lo n r T ep) kn kb kr=aF O (.seq (dZ (k9 2 mr)) (k9 3 mr)) (Ip m (.ref 2) (.ref r) (.lit (bh w)) (vi mn) (ov a) (ov b) (ov x) (ov d) (.bool (a.isNone || !c.keyed)) (.int (a_ c T (a,b,x,d)))) (hR lo n r T ep) kn kb kr:=fun kn kb kr=>by
  refine(congrArg (fun b=>aF O b m4 (hR lo n r T ep) kn kb kr) FE).trans ((Mt _).trans ?_);refine J (AY _)<|J ab<|J kk<|J ab ?_;refine J ab ?_
  cases a with
  |none=>refine J yy<|J (KZ hr hT _) ?_;delta a_;cases c.keyed<;>rfl
  |some a=>
   refine J Bn ?_;delta a_;refine rt c.keyed ?_ ?_
   ·rfl
   ·(refine J iI<|J (KZ hr hT _) ?_);rfl
 refine⟨_,F6 (.bool (a.isNone || !c.keyed)),fun kn kb kr=>?_⟩;exact J (e4 _)<|J (main _ _ _)<|J aN<|J (fin _ _ _ _) rfl
theorem t_(hr:r < 1024)(r2:r≠2)(e2:lo 2=some (bQ c ep2)):∀(vs:List bz) (T:Tb) (mn ep:Nat) (m:Loc),FI m r w mn->(T.map (·.1)).Nodup->T.length+vs.length<=50->
  ∃m2 ep',((ak c w vs T mn).2.2=none->FI m2 r w (ak c w vs T mn).2.1)/\((ak c w vs T mn).1.map (·.1)).Nodup/\(ak c w vs T mn).1.length<=T.length+vs.length/\
   ∀kn kr,dw (cr (aa (aa O)) pW) (aF (aa (aa O)) mr) vs.length (.l (vs.map aH)) m (hR lo n r T ep) kn kr=@Option.rec Nat (fun Y=>KX) (kn m2 (hR lo n r (ak c w vs T mn).1 ep')) (fun kd=>kr (.fl [vi (ak c w vs T mn).2.1,lC (some kd)]) (hR lo n r (ak c w vs T mn).1 ep')) (ak c w vs T mn).2.2
 | [],T,mn,ep,m,F,nd,hT=>⟨m,ep,fun Y=>F,nd,Nat.le_refl _,fun Y Y=>rfl⟩
 |v::vs,T,mn,ep,m,F,nd,hT=>by
  obtain hT:=QK▸hT;refine an (BR (O:=aa (aa O)) (n:=n) (ep:=ep) (v:=v) hr r2 e2 (ai 0xc830431801400010000003e8105040002 rfl hT) F) fun m' F' g=>?_;have P:=BE (O:=O) (n:=n) (ep:=ep) (w:=w) (v:=bN c T v) (was:=none) (key:=a_ c T v) hr r2 e2 nd (ai 0xc830431801400010320c5040002 rfl hT);have unf:∀kn kr,dw (cr (aa (aa O)) pW) (aF (aa (aa O)) mr) (v::vs).length (.l ((v::vs).map aH)) m (hR lo n r T ep) kn kr=cr (aa (aa O)) pW m (hR lo n r T ep) (aH v) fun m h=>aF (aa (aa O)) mr m h (fun m h=>dw (cr (aa (aa O)) pW) (aF (aa (aa O)) mr) vs.length (.l (vs.map aH)) m h kn kr) kn kr:=fun Y Y=>rfl;have tl:∀(x:Nat) (y:V) (h:Hp) (kn kb:KL) (kr:KV),aF (aa (aa O)) (k9 3 mr) (ae (ae m' 1701998445 (vi x)) 1684957547 y) h kn kb kr=ag (ba h .IsNot y .none) fun b=>ay b (kr (.fl [vi (mn+x),y]) h) (kn (ae (ae (ae m' 1701998445 (vi x)) 1684957547 y) 2037277037 (vi (mn+x))) h):=fun x y h kn kb kr=>by have z:=JW (O:=aa (aa O)) (m:=m') (h:=h) (kn:=kn) (kb:=kb) (kr:=kr) (mn:=vi mn) (x:=vi x) (y:=y);obtain z:=(aM F'.mn)▸z;exact z
  have F2:∀(x:Nat) (y:V),FI (ae (ae (ae m' 1701998445 (vi x)) 1684957547 y) 2037277037 (vi (mn+x))) r w (mn+x):=fun x y=>⟨F'.pl,F'.rw,F'.wy,rfl⟩
  obtain lp:ak c w (v::vs) T mn=match cb c w T v with|.ok T'=>ak c w vs T' (mn+1)|.error none=>ak c w vs T mn|.error (some kd)=>(T,mn,some kd):=rfl
  refine J lp ?_;delta cb;refine qX (d6 c w T none (a_ c T v) (bN c T v)) (fun e hc=>?_) fun q hc=>?_
  ·obtain P:=hc▸P;refine xE P fun ep' P=>?_
   cases e with
   |none=>
    refine br (t_ hr r2 e2 vs T mn ep' _ (F2 0 .none) nd (ai 0xc830431801400010320c6140040002 rfl hT)) fun m2 ep3 i1 i2 i3 i4=>⟨m2,ep3,i1,i2,Nat.le_trans i3 (J QK<|lin 0x10c6005006140000002 rfl _ _),fun kn kr=>by
     refine J (unf _ _)<|J (g _ _ _)<|J (P _)<|J xS<|J (tl _ _ _ _ _ _) ?_;exact i4 kn kr⟩
   |some kd=>
    exact⟨m',ep',fun h=>(nomatch h),nd,Nat.le_add_right _ _,fun kn kr=>by
     (refine J (unf _ _)<|J (g _ _ _)<|J (P _)<|J xS<|J (tl _ _ _ _ _ _) ?_);rfl⟩
  ·obtain P:=hc▸P;refine xE P fun ep' P=>?_
   obtain nd':((q.1++ [(a_ c T v,q.2)]).map (·.1)).Nodup:=by
    refine J List.map_append<|jj List.nodup_append ?_;refine⟨?_,by simp,fun y hy z hz e=>?_⟩
    ·exact J (dA hc)<|((List.filter_sublist.trans List.filter_sublist).map _).nodup nd
    ·cases List.mem_singleton.mp hz;exact qu hc (by obtain e:y=a_ c T v:=e;exact aQ e<|hy)
   have ql:q.1.length<=T.length:=J (dA hc)<|QQ (List.length_filter_le _ _) (List.length_filter_le _ _);have l':(q.1++ [(a_ c T v,q.2)]).length<=T.length+1:=by refine J QI<|(?_ :q.1.length+1<=_);omega
   refine br (t_ hr r2 e2 vs _ (mn+1) ep' _ (F2 1 .none) nd' (ai 0x431c0140040c830431801c00010320c6140080003 rfl hT l')) fun m2 ep3 i1 i2 i3 i4=>⟨m2,ep3,i1,i2,Nat.le_trans i3 (J QK<|ai 0x10c70050010010c6007006140040003 rfl l'),fun kn kr=>by
    refine J (unf _ _)<|J (g _ _ _)<|J (P _)<|J xS<|J (tl _ _ _ _ _ _) ?_;exact i4 kn kr⟩
end
section
variable{O:CK}{c:fZ}{w:cq}{T:Tb}
theorem j5(h:i≠j):bD (bD lo i a) j b=bD (bD lo j b) i a:=funext fun x=>by
 refine(?_ :@Bool.rec (fun Y=>Option aB) (@Bool.rec (fun Y=>Option aB) (lo x) (some a) (Nat.beq x i)) (some b) (Nat.beq x j)=@Bool.rec (fun Y=>Option aB) (@Bool.rec (fun Y=>Option aB) (lo x) (some b) (Nat.beq x j)) (some a) (Nat.beq x i));by_cases c:x=i
 ·exact J (natE.t c)<|J (natE.f (fun q=>h (c.symm.trans q))) rfl
 ·exact J (natE.f c) rfl
theorem Bl(hd:d < 1024)(dr:d≠r):(hR lo n r T ep).set d o=hR (bD lo d o) n r T ep:=by(exact J (uB hd)<|J (j5 dr.symm) rfl)
theorem qg(hd:d < 1024)(dr:d≠r)(e:lo d=some o):(hR (bD lo d o') n r T ep).set d o=hR lo n r T ep:=by(exact J (Bl hd dr)<|J gj<|J (dx e) rfl)
theorem J2(hd:d < 1024)(dr:d≠r):(hR lo n r T ep).obj d=lo d:=(kj hd).trans (bW dr)
theorem tB:qk t i b m h kn kb kr=i m h fun a h=>bR h a fun n it h₁=>dw t b n it m h₁ (fun m h'=>kn m (be h a h')) fun v h'=>kr v (be h a h'):=rfl
theorem v7:aF O (.for2 ts i b) m h kn kb kr=qk (cr O ts) (bS O i) (aF O b) m h kn kb kr:=rfl
theorem Bg:bS O (.var x)=gN x:=rfl
theorem sE(hd:d < 1024)(dr:d≠r)(e:lo d=some (.list xs.reverse xs.length))(hm:m nm=some (.ref d)):qk t (gN nm) b m (hR lo n r T ep) kn kb kr=dw t b xs.length (.l xs) m (hR (bD lo d .gone) n r T ep) (fun m h'=>kn m (h'.set d (.list xs.reverse xs.length))) fun v h'=>kr v (h'.set d (.list xs.reverse xs.length)):=by
 have o:=(J2 (n:=n) (T:=T) (ep:=ep) hd dr).trans e;refine J tB<|(?_ :ag (m nm) (fun a=>bR (hR lo n r T ep) a fun n' it h₁=>dw t b n' it m h₁ (fun m h'=>kn m (be (hR lo n r T ep) a h')) fun v h'=>kr v (be (hR lo n r T ep) a h'))=_);refine J hm<|J ab<|J (vL o _)<|J (bq _)<|J (List.reverse_reverse _)<|J (Bl hd dr) ?_;congr 1
 ·exact funext fun m=>funext fun h'=>J (ux o _) rfl
 ·exact funext fun v=>funext fun h'=>J (ux o _) rfl
theorem KM(hr:r < 1024)(r2:r≠2)(e2:lo 2=some (bQ c ep2))(hd:d < 1024)(dr:d≠r)(d2:d≠2)(ed:lo d=some (.list (vs.map aH).reverse vs.length))(nd:(T.map (·.1)).Nodup)(hT:T.length+vs.length<=50):
  ∃ep',((ak c w vs T 0).1.map (·.1)).Nodup/\(ak c w vs T 0).1.length<=T.length+vs.length/\∀k,aa (aa (aa O)) (.fn 36) [.ref 2,.ref r,.ref d,.lit (bh w)] (hR lo n r T ep) k=k (.fl [vi (ak c w vs T 0).2.1,lC (ak c w vs T 0).2.2]) (hR lo n r (ak c w vs T 0).1 ep'):=by
 let m0:Loc:=ae (ae (ae (ae (ae (fun Y=>none) 1851878512 (.ref 2)) 1937207154 (.ref r)) 474449277540 (.ref d)) 7954807 (.lit (bh w))) 2037277037 (vi 0);refine br (t_ (O:=O) (lo:=bD lo d .gone) (n:=n) hr r2 ((bW d2.symm).trans e2) vs T 0 ep m0 ⟨rfl,rfl,rfl,rfl⟩ nd hT) fun m2 ep' h1 h2 h3 g=>⟨ep',h2,h3,fun k=>?_⟩
 refine J (NV _)<|J G2<|J (Qt _ _)<|J aN<|J v7<|J Bg ?_;(refine J (sE hd dr (J (QJ _)<|ed) rfl) ?_;refine J (QJ _)<|J (g _ _) ?_);refine iS ((ak c w vs T 0).2.2) (fun e=>?_) fun kd e=>?_
 ·refine(?_ :aF (aa (aa O)) (.seq (I4 2) .skip) m2 ((hR (bD lo d .gone) n r (ak c w vs T 0).1 ep').set d (.list (vs.map aH).reverse vs.length)) (fun Y h=>k .none h) (fun Y Y=>none) k=_);refine J (qg hd dr ed)<|J aN ?_;have z:=JC (O:=aa (aa O)) (m:=m2) (h:=hR lo n r (ak c w vs T 0).1 ep') (kn:=fun m h=>aF (aa (aa O)) .skip m h (fun Y h=>k .none h) (fun Y Y=>none) k) (kb:=fun Y Y=>none) (kr:=k) (mn:=vi (ak c w vs T 0).2.1);rw [aM (h1 e).mn] at z;exact z
 ·refine(?_ :k _ ((hR (bD lo d .gone) n r (ak c w vs T 0).1 ep').set d (.list (vs.map aH).reverse vs.length))=_);exact J (qg hd dr ed) rfl
noncomputable def hZ(v:Int×bz):V:=.tup [.int v.1,aH v.2]
theorem O2(hr:r < 1024)(u:Int):ba (hR lo n r T ep) .In (.int u) (.ref r)=some (T.lookup u).isSome:=inR hr
theorem pT(hr:r < 1024)(r2:r≠2)(e2:lo 2=some (bQ c ep2)):∀(vs:List (Int×bz)) (T:Tb) (mn ep:Nat) (m:Loc),FI m r w mn->(∀v∈vs,c.keyed=true->v.2.1≠none)->(T.map (·.1)).Nodup->T.length<=40->
  ∃m2 ep',((az c w vs T mn).2.2=none->FI m2 r w (az c w vs T mn).2.1)/\((az c w vs T mn).1.map (·.1)).Nodup/\(az c w vs T mn).1.length<=T.length/\
   ∀kn kr,dw (cr (aa (aa O)) sJ) (aF (aa (aa O)) v8) vs.length (.l (vs.map hZ)) m (hR lo n r T ep) kn kr=@Option.rec Nat (fun Y=>KX) (kn m2 (hR lo n r (az c w vs T mn).1 ep')) (fun kd=>kr (.fl [vi (az c w vs T mn).2.1,lC (some kd)]) (hR lo n r (az c w vs T mn).1 ep')) (az c w vs T mn).2.2
 | [],T,mn,ep,m,F,hv,nd,hT=>⟨m,ep,fun Y=>F,nd,Nat.le_refl _,fun Y Y=>rfl⟩
 |(u,v)::vs,T,mn,ep,m,F,hv,nd,hT=>by
  have P:=BE (O:=O) (n:=n) (ep:=ep) (w:=w) (v:=v) (was:=some u) (key:=bJ c u v) hr r2 e2 nd (ai 0x280c50010320c5040001 rfl hT);let m':Loc:=ae (ae m 7561591 (.int u)) 7827314 (aH v);have F':FI m' r w mn:=⟨F.pl,F.rw,F.wy,F.mn⟩
  obtain em:mU m (.ref 2) (.ref r) (.lit (bh w)) (vi mn) (.int u) (aH v)=m':=by delta mU;exact J F.eq rfl
  have unf:∀kn kr,dw (cr (aa (aa O)) sJ) (aF (aa (aa O)) v8) ((u,v)::vs).length (.l (((u,v)::vs).map hZ)) m (hR lo n r T ep) kn kr=cr (aa (aa O)) sJ m (hR lo n r T ep) (.tup [.int u,aH v]) fun m h=>aF (aa (aa O)) v8 m h (fun m h=>dw (cr (aa (aa O)) sJ) (aF (aa (aa O)) v8) vs.length (.l (vs.map hZ)) m h kn kr) kn kr:=fun Y Y=>rfl;obtain kk:=v6 hr r2 e2
  have bd:∀(kn kb:KL) (kr:KV),cr (aa (aa O)) sJ m (hR lo n r T ep) (.tup [.int u,aH v]) (fun m h=>aF (aa (aa O)) v8 m h kn kb kr)=ay (T.lookup u).isSome
    (aa (aa O) (.fn 35) [.ref 2,.ref r,ov (some u),.int (bJ c u v),aH v,.lit (bh w)] (hR lo n r T ep) fun x h=>cr (aa (aa O)) [.var false 1701998445,.var false 1684957547] m' h x fun m h=>aF (aa (aa O)) (dm (ja (dZ v8))) m h kn kb kr) (kn m' (hR lo n r T ep)):=fun kn kb kr=>by
   refine J Oa ?_;have z:=LH (O:=aa (aa O)) (m:=m) (h:=hR lo n r T ep) (kn:=kn) (kb:=kb) (kr:=kr) (pl:=.ref 2) (rw:=.ref r) (wy:=.lit (bh w)) (mn:=vi mn) (was:=.int u) (row:=aH v);rw [em,inR hr,ab,kk,ab] at z;refine z.trans<|(?_ :ay _ (ag (some c.keyed) _) _=_);refine J ab<|fE c.keyed (fun hk=>?_) fun hk=>?_
   ·refine xE (Option.ne_none_iff_exists'.mp (hv _ (.head _) hk)) fun a ha=>?_;have:bJ c u v=a:=by delta bJ;(exact J hk<|J (show v.1=some a from ha) rfl)
    (dsimp only[iI];refine J this<|J (show aR (hR lo n r T ep) (aH v) (vi 0)=some (ov v.1) from rfl)<|J ab<|J (show v.1=some a from ha) ?_);rfl
   ·obtain this:bJ c u v=u:=by delta bJ;exact J hk rfl
    (dsimp only[mE];refine J this ?_);rfl
  have tl:∀(x:Nat) (y:V) (h:Hp) (kn kb:KL) (kr:KV),aF (aa (aa O)) (dm (ja (dZ v8))) (ae (ae m' 1701998445 (vi x)) 1684957547 y) h kn kb kr=ag (ba h .IsNot y .none) fun b=>ay b (kr (.fl [vi (mn+x),y]) h) (kn (ae (ae (ae m' 1701998445 (vi x)) 1684957547 y) 2037277037 (vi (mn+x))) h):=fun x y h kn kb kr=>by have z:=JS (O:=aa (aa O)) (m:=m') (h:=h) (kn:=kn) (kb:=kb) (kr:=kr) (mn:=vi mn) (x:=vi x) (y:=y);obtain z:=(aM F'.mn)▸z;exact z
  have F2:∀(x:Nat) (y:V),FI (ae (ae (ae m' 1701998445 (vi x)) 1684957547 y) 2037277037 (vi (mn+x))) r w (mn+x):=fun x y=>⟨F'.pl,F'.rw,F'.wy,rfl⟩
  have hv':∀v∈vs,c.keyed=true->v.2.1≠none:=fun v h=>hv v (.tail _ h);obtain lp:az c w ((u,v)::vs) T mn=match dB c w T u v with|.ok T'=>az c w vs T' (mn+1)|.error none=>az c w vs T mn|.error (some kd)=>(T,mn,some kd):=rfl
  refine J lp ?_;delta dB
  cases hl:T.lookup u with
  |none=>
   refine br (pT hr r2 e2 vs T mn ep m' F' hv' nd hT) fun m2 ep3 i1 i2 i3 i4=>⟨m2,ep3,i1,i2,i3,fun kn kr=>by
    refine J (unf _ _)<|J (bd _ _ _)<|J hl ?_;exact i4 kn kr⟩
  |some v0=>
   have bd2:∀(kn kb:KL) (kr:KV),cr (aa (aa O)) sJ m (hR lo n r T ep) (.tup [.int u,aH v]) (fun m h=>aF (aa (aa O)) v8 m h kn kb kr)=aa (aa O) (.fn 35) [.ref 2,.ref r,ov (some u),.int (bJ c u v),aH v,.lit (bh w)] (hR lo n r T ep) fun x h=>cr (aa (aa O)) [.var false 1701998445,.var false 1684957547] m' h x fun m h=>aF (aa (aa O)) (dm (ja (dZ v8))) m h kn kb kr:=fun kn kb kr=>by(refine J (bd _ _ _)<|J hl ?_);rfl
   dsimp only;refine qX (d6 c w T (some u) (bJ c u v) v) (fun e hc=>?_) fun q hc=>?_
   ·rw [hc] at P;refine xE P fun ep' P=>?_
    cases e with
    |none=>
     refine br (pT hr r2 e2 vs T mn ep' _ (F2 0 .none) hv' nd hT) fun m2 ep3 i1 i2 i3 i4=>⟨m2,ep3,i1,i2,i3,fun kn kr=>by
      refine J (unf _ _)<|J (bd2 _ _ _)<|J (P _)<|J xS<|J (tl _ _ _ _ _ _) ?_;exact i4 kn kr⟩
    |some kd=>
     exact⟨m',ep',fun h=>(nomatch h),nd,Nat.le_refl _,fun kn kr=>by
      (refine J (unf _ _)<|J (bd2 _ _ _)<|J (P _)<|J xS<|J (tl _ _ _ _ _ _) ?_);rfl⟩
   ·rw [hc] at P;refine xE P fun ep' P=>?_
    obtain nd':(((q.1.filter fun e=>e.1 != u)++ [(bJ c u v,q.2)]).map (·.1)).Nodup:=by
     refine J List.map_append<|jj List.nodup_append ?_;refine⟨?_,by simp,fun y hy z hz e=>?_⟩
     ·exact J (dA hc)<|((List.filter_sublist.trans (List.filter_sublist.trans List.filter_sublist)).map _).nodup nd
     ·cases List.mem_singleton.mp hz;exact wm hc (by have e:y=bJ c u v:=e;exact aQ e<|hy)
    have l':((q.1.filter fun e=>e.1 != u)++ [(bJ c u v,q.2)]).length<=T.length:=by
     obtain q1:(q.1.filter fun e=>e.1 != u).length<=(T.filter fun e=>e.1 != u).length:=by exact J (dA hc)<|((List.filter_sublist.trans List.filter_sublist).filter _).length_le
     obtain q2:=(pb hl).length_eq;rw [<-bF u T nd] at q1;rw [List.length_cons] at q2;refine J QI<|(?_ :_+1<=_);omega
    refine br (pT hr r2 e2 vs _ (mn+1) ep' _ (F2 1 .none) hv' nd' (ai 0x1850010280c60010280c5080002 rfl hT l')) fun m2 ep3 i1 i2 i3 i4=>⟨m2,ep3,i1,i2,Nat.le_trans i3 l',fun kn kr=>by
     ((refine J (unf _ _)<|J (bd2 _ _ _) ?_);refine J (P _)<|J xS<|J (tl _ _ _ _ _ _) ?_)
     exact i4 kn kr⟩
theorem J_(hr:r < 1024)(r2:r≠2)(e2:lo 2=some (bQ c ep2))(hd:d < 1024)(dr:d≠r)(d2:d≠2)(ed:lo d=some (.list (vs.map hZ).reverse vs.length))(hv:∀v∈vs,c.keyed=true->v.2.1≠none)(nd:(T.map (·.1)).Nodup)(hT:T.length<=40):
  ∃ep',((az c w vs T 0).1.map (·.1)).Nodup/\(az c w vs T 0).1.length<=T.length/\∀k,aa (aa (aa O)) (.fn 37) [.ref 2,.ref r,.ref d,.lit (bh w)] (hR lo n r T ep) k=k (.fl [vi (az c w vs T 0).2.1,lC (az c w vs T 0).2.2]) (hR lo n r (az c w vs T 0).1 ep'):=by
 let m0:Loc:=ae (ae (ae (ae (ae (fun Y=>none) 1851878512 (.ref 2)) 1937207154 (.ref r)) 32481117229639779 (.ref d)) 7954807 (.lit (bh w))) 2037277037 (vi 0);refine br (pT (O:=O) (lo:=bD lo d .gone) (n:=n) hr r2 ((bW d2.symm).trans e2) vs T 0 ep m0 ⟨rfl,rfl,rfl,rfl⟩ hv nd hT) fun m2 ep' h1 h2 h3 g=>⟨ep',h2,h3,fun k=>?_⟩
 refine J (NJ _)<|J Hs<|J (PD _ _)<|J aN<|J v7<|J Bg ?_;(refine J (sE hd dr (J (QJ _)<|ed) rfl) ?_;refine J (QJ _)<|J (g _ _) ?_);refine iS ((az c w vs T 0).2.2) (fun e=>?_) fun kd e=>?_
 ·refine(?_ :aF (aa (aa O)) (.seq (I7 2) .skip) m2 ((hR (bD lo d .gone) n r (az c w vs T 0).1 ep').set d (.list (vs.map hZ).reverse vs.length)) (fun Y h=>k .none h) (fun Y Y=>none) k=_);refine J (qg hd dr ed)<|J aN ?_;have z:=JY (O:=aa (aa O)) (m:=m2) (h:=hR lo n r (az c w vs T 0).1 ep') (kn:=fun m h=>aF (aa (aa O)) .skip m h (fun Y h=>k .none h) (fun Y Y=>none) k) (kb:=fun Y Y=>none) (kr:=k) (mn:=vi (az c w vs T 0).2.1);obtain z:=(aM (h1 e).mn)▸z;exact z
 ·refine(?_ :k _ ((hR (bD lo d .gone) n r (az c w vs T 0).1 ep').set d (.list (vs.map hZ).reverse vs.length))=_);exact J (qg hd dr ed) rfl
end
section
variable{w:cq}{T:Tb}{was:Option Int}{key:Int}
theorem Ik(h:bX w=true)(q:tN c w v=.error e):e=none:=by
 cases w<;>first|exact d_ h|skip
 obtain⟨a,b,x,d⟩:=v
 cases x with
 |none=>obtain rfl:=Except.error.inj q;rfl
 |some x=>
  cases d with
  |none=>exact px (Eq.symm q)
  |some d=>replace q:(if d < 0 then .error none else .ok (a,b,some x,some d):Except (Option Nat) bz)=.error e:=q;split at q<;>cases q;rfl
theorem vo(h:bX w=true)(q:d6 c w T was key v=.error e):e=none:=by
 rw [pI] at q;refine qX (tN c w v) (fun e' hc=>?_) fun v2 hc=>?_
 ·rw [hc] at q;obtain rfl:=Except.error.inj q;exact Ik h hc
 ·rw [hc] at q;have er:∀k,lu w k=none:=fun k=>by delta lu;exact J (QM h) rfl
  replace q:qK c w T was key v2=.error e:=q;delta qK at q;split at q
  ·dsimp only at q;split at q
   ·exact px (Eq.symm q)
   ·obtain rfl:=Except.error.inj q;exact er _
  ·obtain rfl:=Except.error.inj q;exact er _
theorem pR(h:bX w=true):∀(vs:List bz) (T:Tb) (n:Nat),(ak c w vs T n).2.2=none
 | [],T,n=>rfl
 |v::vs,T,n=>by
  refine(?_ :(match cb c w T v with|.ok T'=>ak c w vs T' (n+1)|.error none=>ak c w vs T n|.error (some kd)=>(T,n,some kd)).2.2=none);delta cb;refine qX (d6 c w T none (a_ c T v) (bN c T v)) (fun e hc=>?_) fun q hc=>?_
  ·exact J (vo h hc)<|pR h vs _ _
  ·exact pR h vs _ _
theorem lL(h:bX w=true):∀(vs:List (Int×bz)) (T:Tb) (n:Nat),(az c w vs T n).2.2=none
 | [],T,n=>rfl
 |v::vs,T,n=>by
  refine(?_ :(match dB c w T v.1 v.2 with|.ok T'=>az c w vs T' (n+1)|.error none=>az c w vs T n|.error (some kd)=>(T,n,some kd)).2.2=none);delta dB
  cases hl:T.lookup v.1 with
  |none=>exact lL h vs _ _
  |some v0=>
   dsimp only;refine qX (d6 c w T (some v.1) (bJ c v.1 v.2) v.2) (fun e hc=>?_) fun q hc=>?_
   ·exact J (vo h hc)<|lL h vs _ _
   ·exact lL h vs _ _
def RB(B:Nat)(v:bz):Prop:=∀j i,v.col j=some i->i.natAbs<=B
def ue(B:Nat)(T:Tb):Prop:=∀e∈T,e.1.natAbs<=B/\RB B e.2
theorem ue.up(h:ue B T)(l:B<=B'):ue B' T:=fun e he=>⟨QQ (h e he).1 l,fun j i q=>QQ ((h e he).2 j i q) l⟩
theorem RB.up(h:RB B v)(l:B<=B'):RB B' v:=fun j i q=>QQ (h j i q) l
theorem ue.sml(h:ue 10000 T):Aw T:=fun e he=>⟨Nat.lt_of_le_of_lt (h e he).1 (by decide),fun j i q=>Nat.lt_of_le_of_lt ((h e he).2 j i q) (by decide)⟩
set_option tactic.hygienic true in
theorem Lu(hd:∀d,c.dflt=some d->d.natAbs<=B)(hv:RB B v)(q:tN c w v=.ok v2):RB B v2:=by
 obtain⟨a,b,x,d⟩:=v
 obtain t:∀{v v2:bz},gm w v=.ok v2->v2=v:=fun{v v2} e=>by
  delta gm at e;split at e
  ·split at e
   ·exact px e
   ·obtain rfl:=Except.ok.inj e;rfl
  ·obtain rfl:=Except.ok.inj e;rfl
 delta tN at q;refine qX (dG c w (a,b,x,d)) (fun e hn=>?_) fun v1 hn=>?_
 ·rw [hn] at q;exact px q
 ·rw [hn] at q;refine J (t q) ?_;delta dG at hn;split at hn
  ·exact MG hn<|hv
  ·split at hn
   ·exact px hn
   ·split at hn
    ·rename_i d0 hd0 _;refine MG hn ?_;intro j i e
     match j,e with
     |0,e=>exact hv 0 i e
     |1,e=>exact hv 1 i e
     |2,e=>refine bt e ?_;exact hd _ hd0
     |j+3,e=>exact hv 3 i e
    ·exact px hn
theorem AH(hd:∀d,c.dflt=some d->d.natAbs<=B)(hv:RB B v)(e:d6 c w T was key v=.ok q):RB B q.2/\∀e∈q.1,e∈T:=by
 refine⟨?_,fun e' he=>by rw [dA e] at he;exact(List.mem_filter.mp (List.mem_filter.mp he).1).1⟩;rw [pI] at e;refine qX (tN c w v) (fun e' hc=>?_) fun v2 hc=>?_
 ·rw [hc] at e;exact px e
 ·rw [hc] at e;replace e:qK c w T was key v2=.ok q:=e;delta qK at e;split at e
  ·dsimp only at e;split at e
   ·obtain rfl:=Except.ok.inj e;exact Lu hd hv hc
   ·exact px e
  ·exact px e
theorem Ht(h:ue B T):(fU T).natAbs<=B+1:=by
 obtain this:∀(l:List Int) (a:Int),a.natAbs<=B->(∀x∈l,x.natAbs<=B)->(l.foldl max a).natAbs<=B:=fun l=>by
  induction l with
  |nil=>exact fun a h Y=>h
  |cons b l ih=>
   intro a ha hl;refine ih (max a b) ?_ fun x hx=>hl x (.tail _ hx);have:=hl b (.head _);refine Or.elim (Int.le_total a b) (fun q=>?_) fun q=>?_
   ·exact J (Int.max_eq_right q)<|this
   ·exact J (Int.max_eq_left q)<|ha
 have:=this (T.map (·.1)) 0 (Nat.zero_le _) fun x hx=>an (List.mem_map.mp hx) fun e he ρ=>aQ ρ<|(h e he).1;delta fU;omega
set_option tactic.hygienic true in
theorem qx:∀(vs:List bz) (T:Tb) (n B:Nat),(∀d,c.dflt=some d->d.natAbs<=B)->ue B T->(∀v∈vs,RB B v)->ue (B+vs.length) (ak c w vs T n).1
 | [],T,n,B,hd,h,hv=>h
 |v::vs,T,n,B,hd,h,hv=>by
  have hv1:=hv v (.head _)
  have kb:(a_ c T v).natAbs<=B+1:=by
   delta a_;split
   ·rename_i a _ ha;exact QU (hv1 0 a ha)
   ·exact Ht h
  have rb:RB (B+1) (bN c T v):=by
   intro j i e;delta bN at e
   match j,e with
   |0,e=>
    replace e:(if c.keyed then some (a_ c T v) else v.1)=some i:=e;split at e
    ·exact bt e<|kb
    ·exact QU (hv1 0 i e)
   |1,e=>exact QU (hv1 1 i e)
   |2,e=>exact QU (hv1 2 i e)
   |j+3,e=>exact QU (hv1 3 i e)
  have hd':∀d,c.dflt=some d->d.natAbs<=B+1:=fun d e=>QU (hd d e);have hv':∀v∈vs,RB (B+1) v:=fun v hv0=>(hv v (.tail _ hv0)).up (Nat.le_succ _);refine(?_ :ue _ (match cb c w T v with|.ok T'=>ak c w vs T' (n+1)|.error none=>ak c w vs T n|.error (some kd)=>(T,n,some kd)).1);refine J QK<|J (show B+(vs.length+1)=B+1+vs.length by exact QF (lin 0x1810c5000043180140000002 rfl _ _) (lin 0x431801401810c5000000002 rfl _ _)) ?_;delta cb;refine qX (d6 c w T none (a_ c T v) (bN c T v)) (fun e hc=>?_) fun q hc=>?_
  ·cases e with
   |none=>exact qx vs _ _ (B+1) hd' (h.up (Nat.le_succ _)) hv'
   |some kd=>exact h.up (lin 0x6043140005000002 rfl _ _)
  ·refine xA (AH hd' rb hc) fun q1 q2=>qx vs _ _ (B+1) hd' (fun e he=>?_) hv';refine Or.elim (List.mem_append.mp he) (fun he=>?_) fun he=>?_
   ·exact h.up (Nat.le_succ _) e (q2 e he)
   ·exact aQ (Eq.symm (List.mem_singleton.mp he))<|⟨kb,q1⟩
set_option tactic.hygienic true in
theorem qw:∀(vs:List (Int×bz)) (T:Tb) (n B:Nat),(∀d,c.dflt=some d->d.natAbs<=B)->ue B T->(∀v∈vs,v.1.natAbs<=B/\RB B v.2)->ue B (az c w vs T n).1
 | [],T,n,B,hd,h,hv=>h
 |v::vs,T,n,B,hd,h,hv=>by
  refine xA (hv v (.head _)) fun hu hv1=>?_;have hv':∀v∈vs,v.1.natAbs<=B/\RB B v.2:=fun v hv0=>hv v (.tail _ hv0)
  have kb:(bJ c v.1 v.2).natAbs<=B:=by
   delta bJ;split
   ·rename_i a _ ha;exact hv1 0 a ha
   ·exact hu
  refine(?_ :ue _ (match dB c w T v.1 v.2 with|.ok T'=>az c w vs T' (n+1)|.error none=>az c w vs T n|.error (some kd)=>(T,n,some kd)).1);delta dB
  cases hl:T.lookup v.1 with
  |none=>exact qw vs _ _ B hd h hv'
  |some v0=>
   dsimp only;refine qX (d6 c w T (some v.1) (bJ c v.1 v.2) v.2) (fun e hc=>?_) fun q hc=>?_
   ·cases e with
    |none=>exact qw vs _ _ B hd h hv'
    |some kd=>exact h
   ·refine xA (AH hd hv1 hc) fun q1 q2=>qw vs _ _ B hd (fun e he=>?_) hv';refine Or.elim (List.mem_append.mp he) (fun he=>?_) fun he=>?_
    ·exact h e (q2 e (List.mem_filter.mp he).1)
    ·exact aQ (Eq.symm (List.mem_singleton.mp he))<|⟨kb,q1⟩
end
section
variable{O:CK}
noncomputable def jX(a b:Int):aB:=.list [.int b,.int a] 2
abbrev hS(lo:Nat->Option aB)(a b:Int)(n:Nat):Hp:=bH (bD lo 1 (jX a b)) n
theorem O_:aa O (.fn 31) [.ref 1,.int t] (hS lo a b n) k=ay (decide (0 < a)) (ag (eC (hS lo a b n) .Mod (.int a) (.int t)) fun d=>ag (eC (hS lo a b n) .FloorDiv (.int a) (.int t)) fun q=>k d (bH (bD (bD lo 1 (jX a b)) 1 (.list [.int b,q] 2)) n))
  (ag (eC (hS lo a b n) .Mult (.int b) (.int 39373)) fun x=>ag (eC (hS lo a b n) .Add x (.int 7)) fun x=>gT 3 [x] (hS lo a b n) fun x h=>ag (eC h .Mod x (.int 2147483647)) fun z=>ag (eP h (.ref 1) (.int 1) z) fun h=>ag (aR h (.ref 1) (.int 1)) fun z=>ag (aR h (.ref 1) (.int 1)) fun z'=>ag (eC h .Mult z z') fun x=>gT 3 [x] h fun x h=>ag (eC h .Mod x (.int 2147483629)) fun x=>ag (eC h .FloorDiv x (.int 32)) fun x=>gT 3 [x] h fun x h=>ag (eC h .Mod x (.int t)) fun x=>k x h):=by kernel_rfl
theorem Cc(z:Int):eP (hS lo a b n) (.ref 1) (.int 1) (.int z)=some (bH (bD (bD lo 1 (jX a b)) 1 (jX a z)) n):=by kernel_rfl
theorem Em(z:Int):aR (hS lo a z n) (.ref 1) (.int 1)=some (.int z):=by kernel_rfl
theorem oZ(hy:0 < y):eC h .Mod (.int x) (.int y)=some (.int (x % y)):=by refine(?_ :bg (decide (0 < y)) (some (V.int (x % y)))=_);refine J (QO hy) ?_;rfl
theorem E3(hy:0 < y)(h9:y < 1000000000):eC h .FloorDiv (.int x) (.int y)=some (.int (x / y)):=by refine(?_ :bg (decide (0 < y/\y < 1000000000)) (some (V.int (x / y)))=_);refine J (QO ⟨hy,h9⟩) ?_;rfl
theorem zq(hx:x.natAbs < 2 ^ 64):eC h .Mult (.int x) (.int y)=some (.int (x*y)):=by refine(?_ :bg (decide (x.natAbs < 2 ^ 64\/y.natAbs < 2 ^ 64)) (some (V.int (x*y)))=_);refine J (QO (.inl hx)) ?_;rfl
theorem wz:gT 3 [.int x] h q=q (.int x) h:=rfl
theorem qh(ht:0 < t)(t9:t < 1000000000)(hb:0<=b/\b < 2147483647):∃d a' b':Int,(0<=d/\d < t)/\(0<=b'/\b' < 2147483647)/\∀k,aa O (.fn 31) [.ref 1,.int t] (hS lo a b n) k=k (.int d) (hS lo a' b' n):=by
 by_cases c:0 < a
 ·refine⟨a % t,a / t,b,⟨Int.emod_nonneg _ (by lia),Int.emod_lt_of_pos _ ht⟩,hb,fun k=>?_⟩;(refine J O_<|J (QO c)<|J iI<|J (oZ ht)<|J ab<|J (E3 ht t9)<|J ab<|J gj ?_);rfl
 ·let z:=(b*39373+7) % 2147483647;obtain hz:0<=z/\z < 2147483647:=⟨Int.emod_nonneg _ (by decide),Int.emod_lt_of_pos _ (by decide)⟩
  refine⟨_,a,z,⟨Int.emod_nonneg (z*z % 2147483629 / 32) (Int.ne_of_gt ht),Int.emod_lt_of_pos _ ht⟩,hz,fun k=>?_⟩;exact J O_<|J (QP c)<|J mE<|J (zq (by lia))<|J ab<|J (show eC (hS lo a b n) .Add (.int (b*39373)) (.int 7)=some (.int (b*39373+7)) from rfl)<|J ab<|J wz<|J (oZ (by decide))<|J ab<|J (Cc _)<|J ab<|J gj<|J (Em _)<|J ab<|J ab<|J (zq (by lia))<|J ab<|J wz<|J (oZ (by decide))<|J ab<|J (E3 (by decide) (by decide))<|J ab<|J wz<|J (oZ ht)<|J ab rfl
theorem PG(xs:List V):aa O (.fn 32) [.ref 1,.fl xs] h k=bg (Nat.ble (aq xs) 65536) (O (.fn 31) [.ref 1,.int (Int.ofNat (aq xs))] h fun i h=>ag (aR h (.fl xs) i) fun v=>k v h):=by kernel_rfl
theorem AE(h0:xs≠ [])(hl:xs.length<=100)(hb:0<=b/\b < 2147483647):∃(x:V) (a' b':Int),x∈xs/\(0<=b'/\b' < 2147483647)/\∀k,aa (aa O) (.fn 32) [.ref 1,.fl xs] (hS lo a b n) k=k x (hS lo a' b' n):=by
 have hp:=List.length_pos_iff.mpr h0;refine aI (qh (O:=O) (lo:=lo) (n:=n) (a:=a) (t:=xs.length) (by lia) (by lia) hb) fun d a' b' h1 h2 e=>?_;obtain⟨i,rfl⟩:∃i:Nat,d=i:=⟨d.toNat,by lia⟩
 have hi:i < xs.length:=by lia
 refine⟨xs[i],a',b',List.getElem_mem hi,h2,fun k=>?_⟩;refine J (PG _)<|J (bT (ai 0x64105001000010000105040001 rfl hl))<|J dd<|J (aw _) ?_;refine(e _).trans ?_;(refine J (show aR (hS lo a' b' n) (.fl xs) (.int (i:Int))=some xs[i] from pG (ai 0x641050010000007d0105040001 rfl hl) (List.getElem?_eq_getElem hi)) ?_;exact J ab rfl)
end
section
variable{lo:Nat->Option aB}{n:Nat}{O:CK}
def OH(n:Nat):S:=dZ (k9 n (lE 50))
def MB:S:=ja (OH 1)
def mD(m:Loc)(dr:V):Loc:=ae (ae m 111477796466547 (.ref 1)) 474449277540 dr
def m_(O:CK)(h:Hp)(dr v:V)(q:Hp->KX):KX:=ip h dr (ay (j0 0 dr h) (IQ 0 dr [v] h fun Y h=>q h) none) (fun Y c fs=>ag (jO c 110425311047777) fun g=>O (.fn g) [dr,v] h fun Y h=>q h)
noncomputable def oA:List (Option Int):= [none,some 1,some 2,some 3,some 7]
noncomputable def oB:List (Option Int):= [none,some 1,some 2,some 3]
noncomputable def oC:List (Option Int):= [some 4,some 5,some 4,some 6,none]
noncomputable def oD:List (Option Int):= [none,some 0,some 1,some 1,some (-1)]
theorem Md:aF O MB (mD m dr) h kn kb kr=O (.fn 32) [.ref 1,.fl (oA.map ov)] h fun a h=>O (.fn 32) [.ref 1,.fl (oB.map ov)] h fun b h=>O (.fn 32) [.ref 1,.fl (oC.map ov)] h fun c h=>O (.fn 32) [.ref 1,.fl (oD.map ov)] h fun d h=>m_ O h dr (.tup [a,b,c,d]) (kn (ae (ae (ae (ae (mD m dr) 97 a) 98 b) 99 c) 100 d)):=by kernel_rfl
def LK:FR:=@Option.rec FR (fun Y=>FR) ⟨[],.bad⟩ (fun r=>r) (tn 50)
theorem HT:lE 50=.seq (OH 0) (.seq (.for1 (.var false 1852994932) (.c (.blt 1) (.cons (.var 2037277037) .nil)) MB) (.seq (.ret (.var 474449277540)) .skip)):=by kernel_rfl
theorem PJ(x y:V)(T:S):bG O ⟨LK.ps,.seq (OH 0) T⟩ [x,y] h k=dt h (.list [] 0) fun v h=>aF O T (ae (ae (ae (fun Y=>none) 111477796466547 x) 2037277037 y) 474449277540 v) h (fun Y h=>k .none h) (fun Y Y=>none) k:=by kernel_rfl
theorem NI(xs:List V):aa O (.fn 50) xs h k=bG O ⟨LK.ps,lE 50⟩ xs h k:=by kernel_rfl
theorem vO{t:Mine.Internal.T}{i:X}{b:S}:aF O (.for1 t i b) m h kn kb kr=qk (hU O t) (bS O i) (aF O b) m h kn kb kr:=rfl
theorem DV{t:ST}{b:SS}(e:m x=some (vi j))(hj:j<=1000):qk t (bS O (.c (.blt 1) (.cons (.var x) .nil))) b m h kn kb kr=dw t b j (.r (0:Nat) (0+j:Nat)) m h kn kr:=by refine J tB<|(?_ :ag (m x) (fun v=>gT 1 [v] h fun a h=>bR h a fun n it h₁=>dw t b n it m h₁ (fun m h'=>kn m (be h a h')) fun v h'=>kr v (be h a h'))=_);refine J e<|(?_ :bg (decide (-1000000000000<=(j:Int)/\(j:Int)<=1000000000000)) (bg (jx 0 (j:Int)) (dw t b (Int.toNat (Int.sub (j:Int) 0)) (.r 0 (j:Int)) m h kn kr))=_);(refine J (QO (by lia))<|J dd<|J (show jx 0 (j:Int)=true from QO (by lia))<|J dd<|J (show Int.toNat (Int.sub (j:Int) 0)=j by refine(?_ :Int.toNat ((j:Int) - 0)=j);lia) ?_;refine J (Nat.zero_add _) ?_);rfl
theorem BJ{rs:List V}{v:V}(hd:d < 1024)(d1:d≠1)(hl:l < 1000)(q:Hp->KX):m_ O (hS (bD lo d (.list rs l)) a b n) (.ref d) v q=q (hS (bD lo d (.list (v::rs) (l+1))) a b n):=by have o:(hS (bD lo d (.list rs l)) a b n).obj d=some (.list rs l):=(kj hd).trans ((bW d1).trans d9);delta m_;refine J (lS o _ _)<|(?_ :ay (j0 0 (.ref d) (hS (bD lo d (.list rs l)) a b n)) (hL (hS (bD lo d (.list rs l)) a b n) (.ref d) none fun i rs c=>bg (Nat.blt c 60000) (q ((hS (bD lo d (.list _ l)) a b n).set i (.list (v::rs) (Nat.succ c))))) none=_);refine J (show j0 0 (.ref d) (hS (bD lo d (.list rs l)) a b n)=true from hX o _ _)<|J iI<|J (hX o _ _) ?_;refine(?_ :bg (Nat.blt l 60000) (q ((hS (bD lo d (.list rs l)) a b n).set d (.list (v::rs) (l+1))))=_);exact J (show Nat.blt l 60000=true from QH (ai 0xfa041400410003a9804142040001 rfl hl))<|J dd<|J (uB hd)<|J (j5 d1.symm)<|J gj rfl
theorem E6(O:CK){os:List (Option Int)}(h0:os≠ [])(hl:os.length<=100)(B:Nat)(hB:∀o∈os,∀i,o=some i->i.natAbs<=B)(hb:0<=b/\b < 2147483647):∃(o:Option Int) (a' b':Int),o∈os/\(∀i,o=some i->i.natAbs<=B)/\(0<=b'/\b' < 2147483647)/\∀k,aa (aa O) (.fn 32) [.ref 1,.fl (os.map ov)] (hS lo a b n) k=k (ov o) (hS lo a' b' n):=by refine aI (AE (O:=O) (lo:=lo) (n:=n) (a:=a) (xs:=os.map ov) (by simpa using h0) (J (QJ _)<|hl) hb) fun x a' b' hx h2 e=>?_;refine an (List.mem_map.mp hx) fun o ho ρ=>?_;subst ρ;exact⟨o,a',b',ho,hB o ho,h2,e⟩
theorem Br{j:Nat}(hn:n < 1024)(n1:n≠1)(hj:j<=10)(hb:0<=b/\b < 2147483647):∃(vs:List bz) (a' b':Int),vs.length=j/\(∀v∈vs,RB 10 v)/\(0<=b'/\b' < 2147483647)/\∀k,aa (aa (aa O)) (.fn 50) [.ref 1,vi j] (hS lo a b n) k=k (.ref n) (hS (bD lo n (.list (vs.map aH).reverse vs.length)) a' b' (n+1)):=by
 obtain⟨m',h',⟨f,vs,a',b',h1,h2,h3,h4⟩,e⟩:=vC (as:=hU (aa (aa O)) (.var false 1852994932)) (bd:=aF (aa (aa O)) MB) (P:=fun i m h=>(m 111477796466547=some (.ref 1)/\m 474449277540=some (.ref n))/\∃(vs:List bz) (a' b':Int),vs.length=i/\(∀v∈vs,RB 10 v)/\(0<=b'/\b' < 2147483647)/\h=hS (bD lo n (.list (vs.map aH).reverse vs.length)) a' b' (n+1)) j 0
  (ae (ae (ae (fun Y=>none) 111477796466547 (.ref 1)) 2037277037 (vi j)) 474449277540 (.ref n)) (hS (bD lo n (.list [] 0)) a b (n+1)) (fun i _ hi m h ⟨⟨f1,f2⟩,vs,a,b,l1,l2,l3,eh⟩=>by
   refine J eh ?_;have bd:∀(os:List (Option Int)) (a b:Int),(∀o∈os,∀i,o=some i->i.natAbs<=10)->os≠ []->os.length<=100->(0<=b/\b < 2147483647)->∃(o:Option Int) (a' b':Int),(∀i,o=some i->i.natAbs<=10)/\(0<=b'/\b' < 2147483647)/\∀k,aa (aa O) (.fn 32) [.ref 1,.fl (os.map ov)] (hS (bD lo n (.list (vs.map aH).reverse vs.length)) a b (n+1)) k=k (ov o) (hS (bD lo n (.list (vs.map aH).reverse vs.length)) a' b' (n+1)):=fun os a b hB h0 hl hb=>by exact m5 (E6 O h0 hl 10 hB hb) fun o a' b' Y q=>⟨o,a',b',q⟩
   have sm:∀{os:List (Option Int)},(os.all fun o=>@Option.rec Int (fun Y=>Bool) true (fun i=>decide (i.natAbs<=10)) o)=true->∀o∈os,∀i,o=some i->i.natAbs<=10:=fun h o ho i e=>by have:=List.all_eq_true.mp h o ho;obtain this:=e▸this;exact of_decide_eq_true this
   refine aI (bd oA a b (sm rfl) (List.cons_ne_nil _ _) (by decide) l3) fun x1 a1 b1 p1 r1 e1=>aI (bd oB a1 b1 (sm rfl) (List.cons_ne_nil _ _) (by decide) r1) fun x2 a2 b2 p2 r2 e2=>aI (bd oC a2 b2 (sm rfl) (List.cons_ne_nil _ _) (by decide) r2) fun x3 a3 b3 p3 r3 e3=>aI (bd oD a3 b3 (sm rfl) (List.cons_ne_nil _ _) (by decide) r3) fun x4 a4 b4 p4 r4 e4=>⟨ae (ae (ae (ae (ae m 1852994932 (vi i)) 97 (ov x1)) 98 (ov x2)) 99 (ov x3)) 100 (ov x4),_,⟨⟨f1,f2⟩,vs++ [(x1,x2,x3,x4)],a4,b4,by(refine J QI<|J l1 ?_);rfl,fun v hv=>?_,r4,rfl⟩,fun kn kb kr=>?_⟩
   ·refine Or.elim (List.mem_append.mp hv) (fun hv=>?_) fun hv=>?_
    ·exact l2 v hv
    ·refine aQ (Eq.symm (List.mem_singleton.mp hv)) ?_;intro j i e
     match j,e with
     |0,e=>exact p1 i e
     |1,e=>exact p2 i e
     |2,e=>exact p3 i e
     |j+3,e=>exact p4 i e
   ·refine(?_ :aF (aa (aa O)) MB (ae m 1852994932 (vi i)) _ kn kb kr=_);have z:=Md (O:=aa (aa O)) (m:=ae m 1852994932 (vi i)) (h:=hS (bD lo n (.list (vs.map aH).reverse vs.length)) a b (n+1)) (kn:=kn) (kb:=kb) (kr:=kr) (dr:=.ref n);obtain em:mD (ae m 1852994932 (vi i)) (.ref n)=ae m 1852994932 (vi i):=by delta mD;refine J (aM (m:=ae m 1852994932 (vi i)) (c:=111477796466547) f1)<|J (aM (m:=ae m 1852994932 (vi i)) (c:=474449277540) f2) rfl
    obtain z:=em▸z
    (refine J z<|J (e1 _)<|J (e2 _)<|J (e3 _)<|J (e4 _)<|J ((BJ hn n1 (ai 0x1c500108600300700104a0c60010000003e81050c0043 rfl hj hi l1)) _)<|J List.map_append<|J List.reverse_append<|J QI ?_);rfl) ⟨⟨rfl,rfl⟩,[],a,b,rfl,fun Y h=>(nomatch h),hb,rfl⟩
 obtain h1:=(Nat.zero_add _)▸h1;subst h4;refine⟨vs,a',b',h1,h2,h3,fun k=>?_⟩;refine J (NI _)<|J HT<|J (PJ _ _ _)<|J (ut hn)<|J (j5 n1.symm)<|J aN<|J vO<|J (DV (j:=j) rfl (ai 0xa0c50010000003e8105040001 rfl hj))<|J (e _ _) ?_;refine(?_ :ag (m' 474449277540) _=_);refine J f.2 ?_;rfl
end
section
variable{O:CK}{m:Loc}{T:Tb}
def Oc(n:Nat):S:=dZ (k9 n (lE 51))
def nU:S:=ja (Oc 1)
def Ks(m:Loc)(wy f ky:V):Loc:=ae (ae (ae (ae (ae (ae m 111477796466547 (.ref 1)) 1851878512 (.ref 2)) 1937207154 (.ref 3)) 7954807 wy) 431349919590 f) 7955819 ky
def nV(m:Loc)(wy f ky va vb vc vd:V):Loc:=ae (ae (ae (ae (Ks m wy f ky) 97 va) 98 vb) 99 vc) 100 vd
theorem JZ(T:S):aF O (.seq (dZ nU) T) (Ks m wy f ky) h kn kb kr=ag (aR h (.ref 3) ky) fun row=>cr O pW (Ks m wy f ky) h row fun m h=>aF O T m h kn kb kr:=by kernel_rfl
theorem En:aF O (dm nU) (nV m (.int 0) f ky va vb vc vd) h kn kb kr=ag (aR h (.ref 2) (.lit 431199184235)) fun p=>ag (gU h p) fun t=>ay t (ag (cm h ky (.int 100)) fun x=>m_ O h f (.tup [ky,.tup [x,vb,vc,vd]]) (kn (ae (nV m (.int 0) f ky va vb vc vd) 97 x))) (m_ O h f (.tup [ky,.tup [va,vb,vc,vd]]) (kn (ae (nV m (.int 0) f ky va vb vc vd) 97 va))):=by kernel_rfl
theorem EQ:aF O (dm nU) (nV m (.int 1) f ky va vb vc vd) h kn kb kr=ag (ba h .Is vb .none) fun t=>ay t (m_ O h f (.tup [ky,.tup [va,.none,vc,vd]]) (kn (ae (nV m (.int 1) f ky va vb vc vd) 98 .none))) (ag (cm h vb (.int 1)) fun x=>m_ O h f (.tup [ky,.tup [va,x,vc,vd]]) (kn (ae (nV m (.int 1) f ky va vb vc vd) 98 x))):=by kernel_rfl
noncomputable def oE:List (Option Int):= [some 4,some 5,none]
noncomputable def oF:List (Option Int):= [none,some 0,some 1,some (-1)]
noncomputable def oG:List (Option Int):= [some 1,some 2,none]
theorem JP:aF O (dm nU) (nV m (.int 2) f ky va vb vc vd) h kn kb kr=O (.fn 32) [.ref 1,.fl (oE.map ov)] h fun x h=>m_ O h f (.tup [ky,.tup [va,vb,x,vd]]) (kn (ae (nV m (.int 2) f ky va vb vc vd) 99 x)):=by kernel_rfl
theorem Ka:aF O (dm nU) (nV m (.int 3) f ky va vb vc vd) h kn kb kr=O (.fn 32) [.ref 1,.fl (oF.map ov)] h fun x h=>m_ O h f (.tup [ky,.tup [va,vb,vc,x]]) (kn (ae (nV m (.int 3) f ky va vb vc vd) 100 x)):=by kernel_rfl
theorem Lv:aF O (dm nU) (nV m (.int 4) f ky va vb vc vd) h kn kb kr=O (.fn 32) [.ref 1,.fl (oG.map ov)] h fun x h=>m_ O h f (.tup [ky,.tup [va,x,vc,vd]]) (kn (ae (ae (nV m (.int 4) f ky va vb vc vd) 97 va) 98 x)):=by kernel_rfl
def Lc:FR:=@Option.rec FR (fun Y=>FR) ⟨[],.bad⟩ (fun r=>r) (tn 51)
theorem IV:lE 51=.seq (Oc 0) (.seq (.for1 (.var false 7955819) (.c (.blt 7) (.cons (.var 1937207154) .nil)) (.seq (dZ nU) (dm nU))) (.seq (.ret (.var 431349919590)) .skip)):=by kernel_rfl
theorem PS(x y z:V)(T:S):bG O ⟨Lc.ps,.seq (Oc 0) T⟩ [x,y,z] h k=O (.fn 31) [x,.int 5] h fun w h=>dt h (.list [] 0) fun v h=>aF O T (ae (ae (ae (ae (ae (fun Y=>none) 111477796466547 x) 1851878512 y) 1937207154 z) 7954807 w) 431349919590 v) h (fun Y h=>k .none h) (fun Y Y=>none) k:=by kernel_rfl
theorem NX(xs:List V):aa O (.fn 51) xs h k=bG O ⟨Lc.ps,lE 51⟩ xs h k:=by kernel_rfl
structure FC(m:Loc)(w:Int)(n:Nat):Prop where
 so:m 111477796466547=some (.ref 1)
 pl:m 1851878512=some (.ref 2)
 rw:m 1937207154=some (.ref 3)
 wy:m 7954807=some (.int w)
 fo:m 431349919590=some (.ref n)
theorem J'{t:Bool}:gU h (.bool t)=some t:=rfl
theorem E1:cm h (.int x) (.int y)=some (.int (x+y)):=rfl
theorem AQ{w i:Int}{v:bz}{L:List V}{l B:Nat}(hn:n < 1024)(n8:7<=n)(e2:lo 2=some (bQ c ep2))(e3:lo 3=some (.dI (cy T) ep))(hw:0<=w/\w < 5)(F:FC m w n)(hb:0<=b/\b < 2147483647)(hl:l < 1000)(hv:T.lookup i=some v)(hi:i.natAbs<=B)(rb:RB B v)(hB:10<=B)(hk:c.keyed=true->v.1≠none):
  ∃m' v' a' b',FC m' w n/\RB (B+100) v'/\(c.keyed=true->v'.1≠none)/\(0<=b'/\b' < 2147483647)/\∀kn kb kr,hU (aa (aa O)) (.var false 7955819) m (hS (bD lo n (.list L l)) a b (n+1)) (.int i) (fun m h=>aF (aa (aa O)) (.seq (dZ nU) (dm nU)) m h kn kb kr)=kn m' (hS (bD lo n (.list (hZ (i,v')::L) (l+1))) a' b' (n+1)):=by
 have o2:(hS (bD lo n (.list L l)) a b (n+1)).obj 2=some (bQ c ep2):=(kj (by decide)).trans ((bW (fun e=>lin 0x10c20c0042003003040180 rfl e)).trans ((bW (fun e=>ai 0x1420c00451470c0040003003084181 rfl n8 e)).trans e2));obtain o3:=(kj (by decide)).trans ((bW (fun e=>lin 0x10c30c0042003003041180 rfl e)).trans ((bW (fun e=>ai 0x1430c00451470c0040003003083181 rfl n8 e)).trans e3));obtain rd:aR (hS (bD lo n (.list L l)) a b (n+1)) (.ref 3) (.int i)=some (aH v):=by(refine J (pM o3 _)<|J (dY _ _)<|J (eS _ _)<|J hv ?_);rfl
 have em:Ks m (.int w) (.ref n) (.int i)=ae m 7955819 (.int i):=by delta Ks;exact J (aM F.so)<|J (aM F.pl)<|J (aM F.rw)<|J (aM F.wy)<|J (aM F.fo) rfl
 have st:∀kn kb kr,hU (aa (aa O)) (.var false 7955819) m (hS (bD lo n (.list L l)) a b (n+1)) (.int i) (fun m h=>aF (aa (aa O)) (.seq (dZ nU) (dm nU)) m h kn kb kr)=aF (aa (aa O)) (dm nU) (nV m (.int w) (.ref n) (.int i) (ov v.1) (ov v.2.1) (ov v.2.2.1) (ov v.2.2.2)) (hS (bD lo n (.list L l)) a b (n+1)) kn kb kr:=fun kn kb kr=>by refine(?_ :aF (aa (aa O)) (.seq (dZ nU) (dm nU)) (ae m 7955819 (.int i)) _ kn kb kr=_);(refine aQ em<|J (JZ _)<|J rd<|J ab<|J (KC _) ?_);rfl
 have ap:∀{a b:Int} (x:V) (q:Hp->KX),m_ (aa (aa O)) (hS (bD lo n (.list L l)) a b (n+1)) (.ref n) x q=q (hS (bD lo n (.list (x::L) (l+1))) a b (n+1)):=fun x q=>BJ hn (fun e=>ai 0x431400421470c0040003003085181 rfl n8 e) hl q;have FC':∀(x y z u:V),FC (nV m (.int w) (.ref n) (.int i) x y z u) w n:=fun x y z u=>⟨rfl,rfl,rfl,rfl,rfl⟩
 have pk:∀(os:List (Option Int)),(os.all fun o=>@Option.rec Int (fun Y=>Bool) true (fun i=>decide (i.natAbs<=10)) o)=true->os≠ []->os.length<=100->∃(o:Option Int) (a' b':Int),(∀i,o=some i->i.natAbs<=10)/\(0<=b'/\b' < 2147483647)/\∀k,aa (aa O) (.fn 32) [.ref 1,.fl (os.map ov)] (hS (bD lo n (.list L l)) a b (n+1)) k=k (ov o) (hS (bD lo n (.list L l)) a' b' (n+1)):=fun os h h0 hl=>by
  obtain⟨o,a',b',_,q⟩:=E6 O h0 hl 10 (fun o ho i e=>by
   have:=List.all_eq_true.mp h o ho;obtain this:=e▸this;exact of_decide_eq_true this) hb
  exact⟨o,a',b',q⟩
 have rb':∀{v':bz},(∀i,v'.1=some i->i.natAbs<=B+100)->(∀i,v'.2.1=some i->i.natAbs<=B+100)->(∀i,v'.2.2.1=some i->i.natAbs<=B+100)->(∀i,v'.2.2.2=some i->i.natAbs<=B+100)->RB (B+100) v':=fun h0 h1 h2 h3 j i e=>by
  match j,e with
  |0,e=>exact h0 i e
  |1,e=>exact h1 i e
  |2,e=>exact h2 i e
  |j+3,e=>exact h3 i e
 have u0:∀i,v.1=some i->i.natAbs<=B+100:=fun i e=>QQ (rb 0 i e) (lin 0x64105005000001 rfl _);have u1:∀i,v.2.1=some i->i.natAbs<=B+100:=fun i e=>QQ (rb 1 i e) (lin 0x64105005000001 rfl _);have u2:∀i,v.2.2.1=some i->i.natAbs<=B+100:=fun i e=>QQ (rb 2 i e) (lin 0x64105005000001 rfl _);have u3:∀i,v.2.2.2=some i->i.natAbs<=B+100:=fun i e=>QQ (rb 3 i e) (lin 0x64105005000001 rfl _);obtain⟨wn,rfl⟩:∃k:Nat,w=k:=⟨w.toNat,by omega⟩
 match wn,hw with
 |0,_=>
  have kk:aR (hS (bD lo n (.list L l)) a b (n+1)) (.ref 2) (.lit 431199184235)=some (.bool c.keyed):=by delta aR;refine J (hX o2 _ _)<|J (iM o2) ?_;refine(?_ :aj (iD (hS (bD lo n (.list L l)) a b (n+1)) (.ref 2) (rZ (hS (bD lo n (.list L l)) a b (n+1)) (.ref 2) none fun Y es Y=>aj (di (.lit 431199184235)) fun k=>some (aL Nat.beq es k)) fun Y es Y=>aj (vInt (.lit 431199184235)) fun k=>some (aL iE es k)) (fun o=>o)=_);refine J (dk o2 _ _)<|(?_ :aj (rZ (hS (bD lo n (.list L l)) a b (n+1)) (.ref 2) none fun Y es Y=>aj (di (.lit 431199184235)) fun k=>some (aL Nat.beq es k)) (fun o=>o)=_);refine J (k7 o2 _ _) ?_;rfl
  refine fE c.keyed (fun hkd=>?_) fun hkd=>?_
  ·refine⟨ae (nV m (.int 0) (.ref n) (.int i) (ov v.1) (ov v.2.1) (ov v.2.2.1) (ov v.2.2.2)) 97 (.int (i+100)),(some (i+100),v.2),a,b,⟨rfl,rfl,rfl,rfl,rfl⟩,rb' (fun j e=>by refine bt e ?_;omega) u1 u2 u3,fun Y h=>(nomatch h),hb,fun kn kb kr=>?_⟩
   ·refine J (st _ _ _)<|En.trans ?_;(refine J kk<|J ab<|J hkd<|J J'<|J ab<|J iI<|J E1<|J ab<|J (ap _ _) ?_);rfl
  ·refine⟨ae (nV m (.int 0) (.ref n) (.int i) (ov v.1) (ov v.2.1) (ov v.2.2.1) (ov v.2.2.2)) 97 (ov v.1),v,a,b,⟨rfl,rfl,rfl,rfl,rfl⟩,rb' u0 u1 u2 u3,fun h=>(nomatch h),hb,fun kn kb kr=>?_⟩
   ·refine J (st _ _ _)<|En.trans ?_;(refine J kk<|J ab<|J hkd<|J J'<|J ab<|J mE<|J (ap _ _) ?_);rfl
 |1,_=>
  refine iS v.2.1 (fun hvb=>?_) fun y hvb=>?_
  ·refine⟨ae (nV m (.int 1) (.ref n) (.int i) (ov v.1) (ov none) (ov v.2.2.1) (ov v.2.2.2)) 98 .none,v,a,b,⟨rfl,rfl,rfl,rfl,rfl⟩,rb' u0 u1 u2 u3,hk,hb,fun kn kb kr=>?_⟩
   ·refine J (st _ _ _)<|J hvb ?_;refine EQ.trans ?_;refine J (AY _)<|J ab ?_;refine J iI<|J (ap _ _)<|J (show hZ (i,v)=.tup [.int i,.tup [ov v.1,.none,ov v.2.2.1,ov v.2.2.2]] by delta hZ aH;refine J hvb ?_;rfl) rfl
  ·refine⟨ae (nV m (.int 1) (.ref n) (.int i) (ov v.1) (ov (some y)) (ov v.2.2.1) (ov v.2.2.2)) 98 (.int (y+1)),(v.1,some (y+1),v.2.2),a,b,⟨rfl,rfl,rfl,rfl,rfl⟩,rb' u0 (fun j e=>by refine bt e ?_;have:=rb 1 y hvb;omega) u2 u3,hk,hb,fun kn kb kr=>?_⟩
   ·refine J (st _ _ _)<|J hvb ?_;refine EQ.trans ?_;refine J (AY _)<|J ab ?_;(refine J mE<|J E1<|J ab<|J (ap _ _) ?_);rfl
 |2,_=>
  refine aI (pk oE rfl (List.cons_ne_nil _ _) (by decide)) fun o a' b' p r e=>⟨ae (nV m (.int 2) (.ref n) (.int i) (ov v.1) (ov v.2.1) (ov v.2.2.1) (ov v.2.2.2)) 99 (ov o),(v.1,v.2.1,o,v.2.2.2),a',b',⟨rfl,rfl,rfl,rfl,rfl⟩,rb' u0 u1 (fun j e=>QQ (p j e) (lin 0x1904140283000001 rfl _)) u3,hk,r,fun kn kb kr=>?_⟩
  ·refine J (st _ _ _)<|JP.trans ?_;(refine J (e _)<|J (ap _ _) ?_);rfl
 |3,_=>
  refine aI (pk oF rfl (List.cons_ne_nil _ _) (by decide)) fun o a' b' p r e=>⟨ae (nV m (.int 3) (.ref n) (.int i) (ov v.1) (ov v.2.1) (ov v.2.2.1) (ov v.2.2.2)) 100 (ov o),(v.1,v.2.1,v.2.2.1,o),a',b',⟨rfl,rfl,rfl,rfl,rfl⟩,rb' u0 u1 u2 (fun j e=>QQ (p j e) (lin 0x1904140283000001 rfl _)),hk,r,fun kn kb kr=>?_⟩
  ·refine J (st _ _ _)<|Ka.trans ?_;(refine J (e _)<|J (ap _ _) ?_);rfl
 |4,_=>
  refine aI (pk oG rfl (List.cons_ne_nil _ _) (by decide)) fun o a' b' p r e=>⟨ae (ae (nV m (.int 4) (.ref n) (.int i) (ov v.1) (ov v.2.1) (ov v.2.2.1) (ov v.2.2.2)) 97 (ov v.1)) 98 (ov o),(v.1,o,v.2.2.1,v.2.2.2),a',b',⟨rfl,rfl,rfl,rfl,rfl⟩,rb' u0 (fun j e=>QQ (p j e) (lin 0x1904140283000001 rfl _)) u2 u3,hk,r,fun kn kb kr=>?_⟩
  ·refine J (st _ _ _)<|Lv.trans ?_;(refine J (e _)<|J (ap _ _) ?_);rfl
 |j+5,hw=>omega
end
section
variable{lo:Nat->Option aB}{n:Nat}{O:CK}{a b:Int}{T:Tb}{w:cq}
theorem tP(hn:n < 1024)(n8:7<=n)(e2:lo 2=some (bQ c ep2))(e3:lo 3=some (.dI (cy T) ep))(hb:0<=b/\b < 2147483647)(hT:T.length<=50)(bd:ue B T)(hB:10<=B)(hk:c.keyed=true->∀e∈T,e.2.1≠none)(nd:(T.map (·.1)).Nodup):
  ∃(vs:List (Int×bz)) (a' b':Int),vs.length=T.length/\(∀v∈vs,(v.1.natAbs<=B/\RB (B+100) v.2)/\(c.keyed=true->v.2.1≠none))/\(0<=b'/\b' < 2147483647)/\∀k,aa (aa (aa O)) (.fn 51) [.ref 1,.ref 2,.ref 3] (hS lo a b n) k=k (.ref n) (hS (bD lo n (.list (vs.map hZ).reverse vs.length)) a' b' (n+1)):=by
 refine aI (qh (O:=aa O) (lo:=lo) (n:=n) (a:=a) (t:=5) (by decide) (by decide) hb) fun w a1 b1 hw hb1 t1=>?_;let m0:Loc:=ae (ae (ae (ae (ae (fun Y=>none) 111477796466547 (.ref 1)) 1851878512 (.ref 2)) 1937207154 (.ref 3)) 7954807 (.int w)) 431349919590 (.ref n);have pm:(c9 u9 (T.map (·.1))).Perm (T.map (·.1)):=gW _;obtain pl:(c9 u9 (T.map (·.1))).length=T.length:=by(exact J pm.length_eq<|J (QJ _) rfl)
 obtain⟨m',h',⟨f,js,vs,a',b',h1,h2,h3,h4,h5,h6⟩,e⟩:=yE (as:=hU (aa (aa O)) (.var false 7955819)) (bd:=aF (aa (aa O)) (.seq (dZ nU) (dm nU))) (P:=fun xs m h=>FC m w n/\∃(js:List Int) (vs:List (Int×bz)) (a b:Int),xs=js.map V.int/\(∀j∈js,j∈T.map (·.1))/\vs.length+js.length=T.length/\(∀v∈vs,(v.1.natAbs<=B/\RB (B+100) v.2)/\(c.keyed=true->v.2.1≠none))/\(0<=b/\b < 2147483647)/\h=hS (bD lo n (.list (vs.map hZ).reverse vs.length)) a b (n+1))
  ((c9 u9 (T.map (·.1))).map V.int) m0 (hS (bD lo n (.list [] 0)) a1 b1 (n+1)) (fun x r m h ⟨f,js,vs,a,b,h1,h2,h3,h4,h5,h6⟩=>by
   cases js with
   |nil=>exact nomatch h1
   |cons j js=>
    injection h1 with h0 h7
    subst h0 h6;obtain h3:=QK▸h3;refine an (List.mem_map.mp (h2 _ (.head _))) fun e0 he ρ=>aQ ρ<|xA (bd e0 he) fun q1 q2=>eO (AQ (O:=O) (a:=a) (L:=(vs.map hZ).reverse) (l:=vs.length) hn n8 e2 e3 hw f h5 (ai 0x60431c01400010b20c60010000003e8105080043 rfl hT h3) (jB nd he) q1 q2 hB fun hc=>hk hc e0 he) fun m' v' a' b' f' rb ψ7=>fp ψ7 fun hk' hb' g=>⟨m',_,⟨f',js,vs++ [(e0.1,v')],a',b',h7,fun j hj=>h2 j (.tail _ hj),by refine J QI<|(?_ :vs.length+1+js.length=_);exact QF (ai 0x70431801400010871810c5000040003 rfl h3) (ai 0x50431c0180001147043180005040003 rfl h3),fun v hv=>?_,hb',rfl⟩,fun kn kb kr=>?_⟩
    ·refine Or.elim (List.mem_append.mp hv) (fun hv=>?_) fun hv=>?_
     ·exact h4 v hv
     ·exact aQ (Eq.symm (List.mem_singleton.mp hv))<|⟨⟨q1,rb⟩,hk'⟩
    ·(refine J (g _ _ _)<|J List.map_append<|J List.reverse_append<|J QI ?_);rfl) ⟨⟨rfl,rfl,rfl,rfl,rfl⟩,_,[],a1,b1,rfl,fun j hj=>pm.subset hj,by(exact J List.length_nil<|J pl<|J (Nat.zero_add _) rfl),fun Y h=>(nomatch h),hb1,rfl⟩
 cases js with
 |cons=>exact nomatch h1
 |nil=>
  subst h6;refine⟨vs,a',b',h3,h4,h5,fun k=>?_⟩;obtain o3:=(kj (by decide)).trans ((bW (fun e=>lin 0x10c30c0042003003041180 rfl e)).trans ((bW (fun e=>ai 0x1430c00451470c0040003003083181 rfl n8 e)).trans e3));refine J (NX _)<|J IV<|J (PS _ _ _ _)<|J (t1 _)<|J (ut hn)<|J (j5 (fun e=>ai 0x1410c00451470c0040003003085181 rfl n8 e))<|J aN<|J vO<|J tB ?_
  refine(?_ :iD (hS (bD lo n (.list [] 0)) a1 b1 (n+1)) (.ref 3) (aj (gV (hS (bD lo n (.list [] 0)) a1 b1 (n+1)) (.ref 3)) fun xs=>aj (mf xs) fun ss=>bg (Nat.blt (aq ss) 60) (bR (hS (bD lo n (.list [] 0)) a1 b1 (n+1)) (.fl (dq .txt (c9 ug ss))) fun n' it h₁=>dw (hU (aa (aa O)) (.var false 7955819)) (aF (aa (aa O)) (.seq (dZ nU) (dm nU))) n' it m0 h₁ (fun m h'=>aF (aa (aa O)) (.seq (.ret (.var 431349919590)) .skip) m h' (fun Y h=>k .none h) (fun Y Y=>none) k) fun v h'=>k v h'))
   (fun Y es Y=>bg (Nat.blt (aq es) 60) (bR (hS (bD lo n (.list [] 0)) a1 b1 (n+1)) (.fl (dq .int (c9 u9 (dq (fun e=>e.1) es)))) fun n' it h₁=>dw (hU (aa (aa O)) (.var false 7955819)) (aF (aa (aa O)) (.seq (dZ nU) (dm nU))) n' it m0 h₁ (fun m h'=>aF (aa (aa O)) (.seq (.ret (.var 431349919590)) .skip) m h' (fun Y h=>k .none h) (fun Y Y=>none) k) fun v h'=>k v h'))=_)
  refine J (dk o3 _ _)<|(?_ :bg (Nat.blt (aq (cy T)) 60) _=_);refine J (aw _)<|J (QJ _)<|J (show Nat.blt T.length 60=true from QH (ai 0xc83140040f03142040001 rfl hT))<|J dd<|J (dz _ _)<|J (dz _ _)<|J QZ<|J (iP _) ?_;refine(e _ _).trans<|(?_ :ag (m' 431349919590) _=_);refine J f.fo ?_;rfl
theorem m7:∀(vs:List bz) (T:Tb) (n:Nat),(c.keyed=true->∀e∈T,e.2.1≠none)->c.keyed=true->∀e∈(ak c w vs T n).1,e.2.1≠none
 | [],T,n,h,hk=>h hk
 |v::vs,T,n,h,hk=>by
  refine(?_ :∀e∈(match cb c w T v with|.ok T'=>ak c w vs T' (n+1)|.error none=>ak c w vs T n|.error (some kd)=>(T,n,some kd)).1,e.2.1≠none);delta cb
  cases hc:d6 c w T none (a_ c T v) (bN c T v) with
  |ok q=>
   refine m7 vs _ _ (fun Y e he=>?_) hk;refine Or.elim (List.mem_append.mp he) (fun he=>?_) fun he=>?_
   ·rw [dA hc] at he;exact h hk e (List.mem_filter.mp (List.mem_filter.mp he).1).1
   ·refine aQ (Eq.symm (List.mem_singleton.mp he)) ?_;rw [pI] at hc;refine qX (tN c w (bN c T v)) (fun e h2=>?_) fun v2 h2=>?_
    ·rw [h2] at hc;exact px hc
    ·rw [h2] at hc
     obtain q2:q.2=v2:=by
      replace hc:qK c w T none (a_ c T v) v2=.ok q:=hc;delta qK at hc;split at hc
      ·dsimp only at hc;split at hc
       ·obtain rfl:=Except.ok.inj hc;rfl
       ·exact px hc
      ·exact px hc
     obtain fst:∀{v v2:bz},tN c w v=.ok v2->v2.1=v.1:=fun{v v2} q=>by
      obtain t:∀{v v2:bz},gm w v=.ok v2->v2=v:=fun{v v2} e=>by
       delta gm at e;split at e
       ·split at e
        ·exact px e
        ·obtain rfl:=Except.ok.inj e;rfl
       ·obtain rfl:=Except.ok.inj e;rfl
      delta tN at q;split at q
      ·exact px q
      ·rename_i v1 e1;refine J (t q) ?_;delta dG at e1;split at e1
       ·obtain rfl:=Except.ok.inj e1;rfl
       ·split at e1
        ·exact px e1
        ·split at e1
         ·obtain rfl:=Except.ok.inj e1;rfl
         ·exact px e1
     refine J q2<|J (fst h2) ?_;delta bN;exact J hk<|fun z=>nomatch z
  |error e=>
   cases e with
   |none=>exact m7 vs _ _ h hk
   |some kd=>exact h hk
end
section
variable{O:CK}
def BU(c:V)(h:Hp)(k:KV):KX:=gT 3 [c] h fun a h=>ag (eC h .Sub (.int (-1)) c) fun z=>gT 3 [z] h fun b h=>gT 2 [a,b] h fun tx h=>gT 3 [tx] h fun q h=>ag (eC h .Mod q (.int 2147483629)) fun q=>ag (cm h q (vi 0)) fun q=>ag (cm h q (vi 0)) fun q=>ag (cm h q (vi 17)) fun q=>ag (eC h .Mult q (.int 48271)) fun q=>gT 3 [q] h fun q h=>ag (eC h .Mod q (.int 2147483647)) fun mx=>
 ag (ba h .GtE tx (.int 1000000000000000000)) fun t=>gT 3 [.bool t] h fun t h=>ag (eC h .Mult tx t) fun z=>dt h (.list [mx,z] 2) k
theorem Pt:aa O (.fn 30) [x,vi 0] h k=eV 0 x h fun l h=>ag (ba h .Lt (vi 0) l) fun t=>ay t (ag (aR h x (vi 0)) fun c=>BU c h k) (BU (.int 0) h k):=by kernel_rfl
def fQ(n:Nat):S:=dZ (k9 n (lE 52))
def M4(m:Loc)(a:V):Loc:=ae m 128026154263411 a
theorem l0(a:V):aF O (fQ 0) (M4 m a) h kn kb kr=O (.fn 30) [a,vi 0] h fun v h=>kn (ae (M4 m a) 111477796466547 v) h:=by kernel_rfl
noncomputable def oH:List (Option Int):= [none,some 5,some 8]
theorem l1:aF O (fQ 1) (ae m 111477796466547 so) h kn kb kr=O (.fn 31) [so,vi 2] h fun d h=>ag (ba h .Eq d (vi 0)) fun t=>O (.fn 32) [so,.fl (oH.map ov)] h fun e h=>dt h (.dL [(431199184235,.bool t),(32770348699510116,e)] 2) fun v h=>kn (ae (ae m 111477796466547 so) 1851878512 v) h:=by kernel_rfl
def N5(m:Loc)(so pl:V):Loc:=ae (ae m 111477796466547 so) 1851878512 pl
theorem l2:aF O (fQ 2) (N5 m so pl) h kn kb kr=O (.fn 31) [so,vi 2] h fun d h=>ag (ba h .Eq d (vi 0)) fun t1=>O (.fn 31) [so,vi 3] h fun d h=>ag (ba h .Eq d (vi 0)) fun t2=>ag (eP h pl (.lit 1919508848) (.bool t1)) fun h=>ag (eP h pl (.lit 1701998445) (.bool t2)) fun h=>kn (N5 m so pl) h:=by kernel_rfl
theorem l3:aF O (fQ 3) m h kn kb kr=dt h (.dI [] 0) fun v h=>kn (ae m 1937207154 v) h:=by kernel_rfl
def mR(m:Loc)(so pl rw:V):Loc:=ae (N5 m so pl) 1937207154 rw
theorem l4:aF O (fQ 4) (mR m so pl rw) h kn kb kr=O (.fn 31) [so,vi 3] h fun d h=>ag (cm h (vi 1) d) fun j=>O (.fn 50) [so,j] h fun dr h=>O (.fn 36) [pl,rw,dr,.lit 111542170183529] h fun Y h=>kn (mR m so pl rw) h:=by kernel_rfl
noncomputable def MV:List V:= [.lit (bh .abort),.lit (bh .rollback),.lit (bh .fail),.lit (bh .ignore),.lit (bh .replace),.lit (bh .replace)]
theorem l5:aF O (fQ 5) (mR m so pl rw) h kn kb kr=O (.fn 32) [so,.fl MV] h fun v h=>kn (ae (mR m so pl rw) 7954807 v) h:=by kernel_rfl
theorem l6:aF O (fQ 6) (ae (mR m so pl rw) 7954807 wy) h kn kb kr=eV 5 rw h fun v h=>kn (ae (ae (mR m so pl rw) 7954807 wy) 491328397676 v) h:=by kernel_rfl
def mL(m:Loc)(so pl rw wy lt:V):Loc:=ae (ae (mR m so pl rw) 7954807 wy) 491328397676 lt
theorem l7:aF O (fQ 7) (mL m so pl rw wy lt) h kn kb kr=dt h (.dI [] 0) fun e h=>ag (ba h .Eq rw e) fun t=>ay (xor t true) (O (.fn 31) [so,vi 2] h fun d h=>ag (ba h .Eq d (vi 0)) fun t=>ay t (aF O (ja (fQ 7)) (mL m so pl rw wy lt) h kn kb kr) (aF O (xQ (fQ 7)) (mL m so pl rw wy lt) h kn kb kr)) (ay t (aF O (ja (fQ 7)) (mL m so pl rw wy lt) h kn kb kr) (aF O (xQ (fQ 7)) (mL m so pl rw wy lt) h kn kb kr)):=by kernel_rfl
noncomputable def NS:List Mine.Internal.T:= [.var false 2037277037,.var false 1684957547]
noncomputable def NA:List Mine.Internal.T:= [.var false 125780070330999,.var false 30787916450984560]
theorem PA(T:S):aF O (.seq (dZ (ja (fQ 7))) T) (mL m so pl rw wy lt) h kn kb kr=O (.fn 31) [so,vi 2] h fun d h=>ag (cm h (vi 1) d) fun j=>O (.fn 50) [so,j] h fun dr h=>aF O T (ae (mL m so pl rw wy lt) 474449277540 dr) h kn kb kr:=by kernel_rfl
theorem Qa(dr:V):aF O (dZ (k9 1 (ja (fQ 7)))) (ae (mL m so pl rw wy lt) 474449277540 dr) h kn kb kr=O (.fn 36) [pl,lt,dr,wy] h fun v h=>cr O NS (ae (mL m so pl rw wy lt) 474449277540 dr) h v kn:=by kernel_rfl
theorem Pa:cr O NS m h (.fl [x,y]) kn=kn (ae (ae m 2037277037 x) 1684957547 y) h:=by kernel_rfl
theorem Pb:cr O NA m h (.fl [x,y]) kn=kn (ae (ae m 125780070330999 x) 30787916450984560 y) h:=by kernel_rfl
def mZ(m:Loc)(so pl rw wy lt dr mn kd:V)(nm:Nat):Loc:=ae (ae (ae (mL m so pl rw wy lt) nm dr) 2037277037 mn) 1684957547 kd
theorem Qq(dr mn kd:V):aF O (dZ (k9 2 (ja (fQ 7)))) (mZ m so pl rw wy lt dr mn kd 474449277540) h kn kb kr=O (.fn 40) [pl,dr,wy] h fun v h=>cr O NA (mZ m so pl rw wy lt dr mn kd 474449277540) h v kn:=by kernel_rfl
theorem K_:ja (fQ 7)=.seq (dZ (ja (fQ 7))) (.seq (dZ (k9 1 (ja (fQ 7)))) (.seq (dZ (k9 2 (ja (fQ 7)))) .skip)):=by kernel_rfl
theorem u0(T:S):aF O (.seq (dZ (xQ (fQ 7))) T) (mL m so pl rw wy lt) h kn kb kr=O (.fn 51) [so,pl,rw] h fun dr h=>aF O T (ae (mL m so pl rw wy lt) 32481117229639779 dr) h kn kb kr:=by kernel_rfl
theorem u1(dr:V):aF O (dZ (k9 1 (xQ (fQ 7)))) (ae (mL m so pl rw wy lt) 32481117229639779 dr) h kn kb kr=O (.fn 37) [pl,lt,dr,wy] h fun v h=>cr O NS (ae (mL m so pl rw wy lt) 32481117229639779 dr) h v kn:=by kernel_rfl
theorem u2(dr mn kd:V):aF O (dZ (k9 2 (xQ (fQ 7)))) (mZ m so pl rw wy lt dr mn kd 32481117229639779) h kn kb kr=O (.fn 41) [pl,dr,wy] h fun v h=>cr O NA (mZ m so pl rw wy lt dr mn kd 32481117229639779) h v kn:=by kernel_rfl
theorem M8:xQ (fQ 7)=.seq (dZ (xQ (fQ 7))) (.seq (dZ (k9 1 (xQ (fQ 7)))) (.seq (dZ (k9 2 (xQ (fQ 7)))) .skip)):=by kernel_rfl
theorem PV(dr mn kd wr pg:V):aF O (fQ 8) (ae (ae (mZ m so pl rw wy lt dr mn kd 474449277540) 125780070330999 wr) 30787916450984560 pg) h kn kb kr=O (.fn 49) [pl,rw,wr,pg,wy,.fl [lt,mn,kd]] h kr:=by kernel_rfl
theorem P3(dr mn kd wr pg:V):aF O (fQ 8) (ae (ae (mZ m so pl rw wy lt dr mn kd 32481117229639779) 125780070330999 wr) 30787916450984560 pg) h kn kb kr=O (.fn 49) [pl,rw,wr,pg,wy,.fl [lt,mn,kd]] h kr:=by kernel_rfl
def KO:FR:=@Option.rec FR (fun Y=>FR) ⟨[],.bad⟩ (fun r=>r) (tn 52)
theorem Qf(T:S)(a:V):bG O ⟨KO.ps,T⟩ [a] h k=aF O T (M4 (fun Y=>none) a) h (fun Y h=>k .none h) (fun Y Y=>none) k:=by kernel_rfl
theorem OP(xs:List V):aa O (.fn 52) xs h k=bG O ⟨KO.ps,lE 52⟩ xs h k:=by kernel_rfl
theorem H6:lE 52=.seq (fQ 0) (.seq (fQ 1) (.seq (fQ 2) (.seq (fQ 3) (.seq (fQ 4) (.seq (fQ 5) (.seq (fQ 6) (.seq (fQ 7) (.seq (fQ 8) .skip)))))))):=by kernel_rfl
theorem P4(xs:List V):aa O (.fn 49) xs h k=gG 4096 h fun h=>bG O oi xs h k:=by kernel_rfl
end
section
variable{O:CK}{c:fZ}{w:cq}{T:Tb}
def pL(lo:Nat->Option aB):Prop:=∃a b:Int,lo 1=some (jX a b)/\(0<=b/\b < 2147483647)
abbrev Iy(i:Nat)(lo lo':Nat->Option aB):Prop:=∀j,j≠i->lo' j=lo j
theorem Fh(hs:pL lo)(ht:0 < t)(t9:t < 1000000000):∃(x:Int) (lo':Nat->Option aB),(0<=x/\x < t)/\pL lo'/\Iy 1 lo lo'/\∀k,aa O (.fn 31) [.ref 1,.int t] (bH lo n) k=k (.int x) (bH lo' n):=by
 refine dy hs fun a b e hb=>aI (qh (O:=O) (lo:=lo) (n:=n) (a:=a) ht t9 hb) fun x a' b' h1 h2 g=>⟨x,bD lo 1 (jX a' b'),h1,⟨a',b',d9,h2⟩,fun j hj=>bW hj,fun k=>?_⟩
 refine aQ (g k)<|J (show hS lo a b n=bH lo n by refine(?_ :bH (bD lo 1 (jX a b)) n=_);exact J (dx e) rfl) rfl
theorem Ky(hs:pL lo)(h0:xs≠ [])(hl:xs.length<=100):∃(x:V) (lo':Nat->Option aB),x∈xs/\pL lo'/\Iy 1 lo lo'/\∀k,aa (aa O) (.fn 32) [.ref 1,.fl xs] (bH lo n) k=k x (bH lo' n):=by
 refine dy hs fun a b e hb=>aI (AE (O:=O) (lo:=lo) (n:=n) (a:=a) h0 hl hb) fun x a' b' h1 h2 g=>⟨x,bD lo 1 (jX a' b'),h1,⟨a',b',d9,h2⟩,fun j hj=>bW hj,fun k=>?_⟩
 refine aQ (g k)<|J (show hS lo a b n=bH lo n by refine(?_ :bH (bD lo 1 (jX a b)) n=_);exact J (dx e) rfl) rfl
theorem zu(hs:pL lo)(hn:n < 1024)(n1:n≠1)(hj:j<=10):∃(vs:List bz) (lo':Nat->Option aB),vs.length=j/\(∀v∈vs,RB 10 v)/\pL lo'/\lo' n=some (.list (vs.map aH).reverse vs.length)/\(∀i,i≠1->i≠n->lo' i=lo i)/\∀k,aa (aa (aa O)) (.fn 50) [.ref 1,vi j] (bH lo n) k=k (.ref n) (bH lo' (n+1)):=by
 refine dy hs fun a b e hb=>eK (Br (O:=O) (lo:=lo) (a:=a) hn n1 hj hb) fun vs a' b' h1 h2 h3 g=>⟨vs,bD (bD lo n (.list (vs.map aH).reverse vs.length)) 1 (jX a' b'),h1,h2,⟨a',b',d9,h3⟩,(bW n1).trans d9,fun i h1 hn=>(bW h1).trans (bW hn),fun k=>?_⟩
 refine aQ (g k)<|J (show hS lo a b n=bH lo n by refine(?_ :bH (bD lo 1 (jX a b)) n=_);exact J (dx e) rfl) rfl
theorem Al(hs:pL lo)(hn:n < 1024)(n8:7<=n)(e2:lo 2=some (bQ c ep2))(e3:lo 3=some (.dI (cy T) ep))(hT:T.length<=50)(bd:ue B T)(hB:10<=B)(hk:c.keyed=true->∀e∈T,e.2.1≠none)(nd:(T.map (·.1)).Nodup):
  ∃(vs:List (Int×bz)) (lo':Nat->Option aB),vs.length=T.length/\(∀v∈vs,(v.1.natAbs<=B/\RB (B+100) v.2)/\(c.keyed=true->v.2.1≠none))/\pL lo'/\lo' n=some (.list (vs.map hZ).reverse vs.length)/\(∀i,i≠1->i≠n->lo' i=lo i)/\∀k,aa (aa (aa O)) (.fn 51) [.ref 1,.ref 2,.ref 3] (bH lo n) k=k (.ref n) (bH lo' (n+1)):=by
 refine dy hs fun a b e hb=>eK (tP (O:=O) (a:=a) hn n8 e2 e3 hb hT bd hB hk nd) fun vs a' b' h1 h2 h3 g=>⟨vs,bD (bD lo n (.list (vs.map hZ).reverse vs.length)) 1 (jX a' b'),h1,h2,⟨a',b',d9,h3⟩,(bW (by first|decide|exact fun e=>ai 0x431400421470c0040003003085181 rfl n8 e)).trans d9,fun i h1 hn=>(bW h1).trans (bW hn),fun k=>?_⟩
 refine aQ (g k)<|J (show hS lo a b n=bH lo n by refine(?_ :bH (bD lo 1 (jX a b)) n=_);exact J (dx e) rfl) rfl
theorem LI(hr:r < 1024)(r2:r≠2)(e2:lo 2=some (bQ c ep2))(er:lo r=some (.dI (cy T) ep))(hd:d < 1024)(dr:d≠r)(d2:d≠2)(ed:lo d=some (.list (vs.map aH).reverse vs.length))(nd:(T.map (·.1)).Nodup)(hT:T.length+vs.length<=50):
  ∃(ep':Nat) (lo':Nat->Option aB),((ak c w vs T 0).1.map (·.1)).Nodup/\(ak c w vs T 0).1.length<=T.length+vs.length/\lo' r=some (.dI (cy (ak c w vs T 0).1) ep')/\Iy r lo lo'/\∀k,aa (aa (aa O)) (.fn 36) [.ref 2,.ref r,.ref d,.lit (bh w)] (bH lo n) k=k (.fl [vi (ak c w vs T 0).2.1,lC (ak c w vs T 0).2.2]) (bH lo' n):=by
 refine bP (KM (O:=O) (n:=n) (ep:=ep) hr r2 e2 hd dr d2 ed nd hT) fun ep' h1 h2 g=>⟨ep',_,h1,h2,d9,fun j hj=>bW hj,fun k=>?_⟩
 refine aQ (g k)<|J (show hR lo n r T ep=bH lo n by refine(?_ :bH (bD lo r (.dI (cy T) ep)) n=_);exact J (dx er) rfl) rfl
theorem OQ(hr:r < 1024)(r2:r≠2)(e2:lo 2=some (bQ c ep2))(er:lo r=some (.dI (cy T) ep))(hd:d < 1024)(dr:d≠r)(d2:d≠2)(ed:lo d=some (.list (vs.map hZ).reverse vs.length))(hv:∀v∈vs,c.keyed=true->v.2.1≠none)(nd:(T.map (·.1)).Nodup)(hT:T.length<=40):
  ∃(ep':Nat) (lo':Nat->Option aB),((az c w vs T 0).1.map (·.1)).Nodup/\(az c w vs T 0).1.length<=T.length/\lo' r=some (.dI (cy (az c w vs T 0).1) ep')/\Iy r lo lo'/\∀k,aa (aa (aa O)) (.fn 37) [.ref 2,.ref r,.ref d,.lit (bh w)] (bH lo n) k=k (.fl [vi (az c w vs T 0).2.1,lC (az c w vs T 0).2.2]) (bH lo' n):=by
 refine bP (J_ (O:=O) (n:=n) (ep:=ep) hr r2 e2 hd dr d2 ed hv nd hT) fun ep' h1 h2 g=>⟨ep',_,h1,h2,d9,fun j hj=>bW hj,fun k=>?_⟩
 refine aQ (g k)<|J (show hR lo n r T ep=bH lo n by refine(?_ :bH (bD lo r (.dI (cy T) ep)) n=_);exact J (dx er) rfl) rfl
def NG(x:Int):Int:=@Bool.rec (fun Y=>Int) x ((-1:Int) - x) (decide (x < (-1:Int) - x))
def Nf(x:Int):Int:=@Bool.rec (fun Y=>Int) (0:Int) (1:Int) (decide ((1000000000000000000:Int)<=x))
theorem Gn(x:Int):∃a b:Int,(0<=b/\b < 2147483647)/\∀k,BU (.int x) h k=dt h (jX a b) k:=by
 let tx:Int:=NG x;let y:Int:=tx % 2147483629+0+0+17;let z:Int:=Nf tx;refine⟨tx*z,(y*48271) % 2147483647,⟨Int.emod_nonneg _ (by decide),Int.emod_lt_of_pos _ (by decide)⟩,fun k=>?_⟩;obtain hy:y.natAbs < 2 ^ 64:=by have h1:0<=tx % 2147483629:=Int.emod_nonneg _ (by decide);have h2:tx % 2147483629 < 2147483629:=Int.emod_lt_of_pos _ (by decide);lia
 obtain hz:z.natAbs < 2 ^ 64:=by
  have q:∀bb:Bool,(@Bool.rec (fun Y=>Int) (0:Int) (1:Int) bb).natAbs < 2 ^ 64:=fun bb=>by cases bb<;>decide
  exact q _
 refine(?_ :ag (eC h .Mod (.int tx) (.int 2147483629)) (fun q=>ag (cm h q (vi 0)) fun q=>ag (cm h q (vi 0)) fun q=>ag (cm h q (vi 17)) fun q=>ag (eC h .Mult q (.int 48271)) fun q=>gT 3 [q] h fun q h=>ag (eC h .Mod q (.int 2147483647)) fun mx=>
  ag (ba h .GtE (.int tx) (.int 1000000000000000000)) fun t=>gT 3 [.bool t] h fun t h=>ag (eC h .Mult (.int tx) t) fun z=>dt h (.list [mx,z] 2) k)=_)
 refine J (oZ (by decide))<|J ab ?_;refine(?_ :ag (eC h .Mult (.int y) (.int 48271)) _=_);refine J (zq hy)<|J ab<|J wz<|J (oZ (by decide))<|J ab ?_;refine(?_ :ag (bg (decide (tx.natAbs < 2 ^ 64\/z.natAbs < 2 ^ 64)) (some (V.int (tx*z)))) _=_);(refine J (QO (.inr hz))<|J dd<|J ab ?_);rfl
theorem Ln{is:List Int}(hl:is.length<=1000):∃lo',pL lo'/\Iy 1 lo lo'/\∀k,aa O (.fn 30) [.fl (is.map V.int),vi 0] (bH lo 1) k=k (.ref 1) (bH lo' 2):=by
 have st:∀k,aa O (.fn 30) [.fl (is.map V.int),vi 0] (bH lo 1) k=@List.casesOn Int (fun Y=>KX) is (BU (.int 0) (bH lo 1) k) fun x Y=>BU (.int x) (bH lo 1) k:=fun k=>by
  refine J Pt<|(?_ :bg (Nat.ble (aq (is.map V.int)) 65536) (ag (ba (bH lo 1) .Lt (vi 0) (.int (Int.ofNat (aq (is.map V.int))))) fun t=>ay t (ag (aR (bH lo 1) (.fl (is.map V.int)) (vi 0)) fun c=>BU c (bH lo 1) k) (BU (.int 0) (bH lo 1) k))=_);refine J (aw _)<|J (QJ _)<|J (fz (by first|decide|exact ai 0x3e8105001000010000105040001 rfl hl))<|J dd ?_
  cases is with
  |nil=>rfl
  |cons x is=>
   obtain z:aR (bH lo 1) (.fl ((x::is).map V.int)) (vi 0)=some (.int x):=by refine(?_ :bg (Nat.ble (aq ((x::is).map V.int)) 65536) (aj (I_ (aq ((x::is).map V.int)) 0) fun n=>lN ((x::is).map V.int) n)=_);(refine J (aw _)<|J (QJ _)<|J (fz (by first|decide|exact ai 0x3e8105001000010000105040001 rfl hl))<|J dd ?_);rfl
   refine(?_ :ag (some (decide ((0:Int) < Int.ofNat (x::is).length))) (fun t=>ay t (ag (aR (bH lo 1) (.fl ((x::is).map V.int)) (vi 0)) fun c=>BU c (bH lo 1) k) (BU (.int 0) (bH lo 1) k))=_);(refine J ab<|J (QO (by refine(?_ :(0:Int) < ((is.length+1:Nat):Int));lia)) ?_;refine J iI<|J z ?_);rfl
 have fin:∀x:Int,(∀k,aa O (.fn 30) [.fl (is.map V.int),vi 0] (bH lo 1) k=BU (.int x) (bH lo 1) k)->∃lo',pL lo'/\Iy 1 lo lo'/\∀k,aa O (.fn 30) [.fl (is.map V.int),vi 0] (bH lo 1) k=k (.ref 1) (bH lo' 2):=fun x q=>by exact dy (Gn x) fun a b hb g=>⟨_,⟨a,b,d9,hb⟩,fun j hj=>bW hj,fun k=>(q k).trans ((g k).trans (ut (by decide)))⟩
 cases is with
 |nil=>exact fin 0 st
 |cons x is=>exact fin x st
end
section
variable{O:CK}{w:cq}
def Nh:FR:=@Option.rec FR (fun Y=>FR) ⟨[],.bad⟩ (fun r=>r) (tn 40)
def OF:FR:=@Option.rec FR (fun Y=>FR) ⟨[],.bad⟩ (fun r=>r) (tn 41)
theorem jP(n:Nat):aS (n+1)=aa (aS n):=rfl
theorem Pg(xs:List V):aa O (.fn 40) xs h k=gq false 2 xs h fun h=>gG 1024 h fun h=>bG O Nh xs h k:=by kernel_rfl
theorem O6(xs:List V):aa O (.fn 41) xs h k=gq true 3 xs h fun h=>gG 1024 h fun h=>bG O OF xs h k:=by kernel_rfl
theorem yD(e2:lo 2=some (bQ c ep))(e7:lo 7=some (.list xs.reverse xs.length))(hd:lA up xs=some cs)(q:Hp->KX):gq up l [p,.ref 7,y] (bH lo 8) q=q (hG c ep up l lo cs)/\gq up l [p,.ref 7,y] (hG c ep up l lo cs) q=q (hG c ep up l lo cs):=by
 obtain o:=(kj (by decide)).trans e7;have o2:(hG c ep up l lo cs).obj 7=some (.rows up l cs):=by exact(kj (by decide)).trans d9
 constructor
 ·refine(?_ :hL (bH lo 8) (.ref 7) (gi (bH lo 8) (.ref 7) none fun Y Y Y Y=>q (bH lo 8)) (fun i rs Y=>ag (lA up (bC rs)) fun cs=>q ((bH lo 8).set i (.rows up l cs)))=_);refine J (hX o _ _)<|(?_ :ag (lA up (bC xs.reverse)) (fun cs=>q ((bH lo 8).set 7 (.rows up l cs)))=_);refine J (bq _)<|J (List.reverse_reverse _)<|J hd<|J ab<|J (uB (by decide)) ?_;refine(?_ :q (bH (bD lo 7 (.rows up l cs)) 8)=q (bH (bD (bD lo 2 (bQ c ep)) 7 (.rows up l cs)) 8));exact J (dx e2) rfl
 ·refine(?_ :hL (hG c ep up l lo cs) (.ref 7) (gi (hG c ep up l lo cs) (.ref 7) none fun Y Y Y Y=>q (hG c ep up l lo cs)) (fun i rs Y=>ag (lA up (bC rs)) fun cs'=>q ((hG c ep up l lo cs).set i (.rows up l cs')))=_);refine J (hX o2 _ _)<|(?_ :gi (hG c ep up l lo cs) (.ref 7) none (fun Y Y Y Y=>q (hG c ep up l lo cs))=_);exact oU o2 _ _
theorem uW:∀vs:List bz,lA false (vs.map aH)=some (vs.map fun v=>(V.none,cV v))
 | []=>rfl
 |v::vs=>by refine(?_ :aj (some (V.none,cV v)) (fun c=>aj (lA false (vs.map aH)) fun r=>some (c::r))=_);refine J (uW vs) ?_;rfl
theorem vk:∀vs:List (Int×bz),lA true (vs.map hZ)=some (vs.map qf)
 | []=>rfl
 |v::vs=>by refine(?_ :aj (some (qf v)) (fun c=>aj (lA true (vs.map hZ)) fun r=>some (c::r))=_);refine J (vk vs) ?_;rfl
def Gen(O:CK)(f:Nat)(c:fZ)(w:cq)(lo:Nat->Option aB)(P:List Op):Prop:=∃wr pg ops h',(∀k,O (.fn f) [.ref 2,.ref 7,.lit (bh w)] (bH lo 8) k=k (.fl [wr,pg]) h')/\Made h'.obj wr pg ops (xB c) (Hn c)/\Li ops P/\P.length<=1900/\h'.next<=4096/\h'.obj 3=lo 3/\h'.obj 5=lo 5
theorem AM(g:aS 12 (.fn f) [.ref 2,.ref 7,.lit (bh w)] (hG c ep up l lo cs) vw=rS c P lo)(e:∀k,aS 12 (.fn f) [.ref 2,.ref 7,.lit (bh w)] (bH lo 8) k=aS 12 (.fn f) [.ref 2,.ref 7,.lit (bh w)] (hG c ep up l lo cs) k):Gen (aS 12) f c w lo P:=by
 refine Or.elim (oJ 12 (.fn f) [.ref 2,.ref 7,.lit (bh w)] (hG c ep up l lo cs)) (fun ρ=>?_) fun q=>?_
 ·refine ij ρ fun v h' q=>?_;rw [q] at g;refine bI (OB g) fun wr pg ops ρ h1 h2 h3 h4 ψ7=>xA ψ7 fun h5 h6=>?_;subst ρ;have pr:=AG h3;exact⟨wr,pg,ops,h',fun k=>(e k).trans (q k),h4,pr,by obtain this:=pr.length;exact ai 0x14600114000076c10600100000076c105080002 rfl h2 this,h1,h5.symm,h6.symm⟩
 ·rw [q] at g;exact nn g
theorem C3(G:GI c w){vs:List bz}(hl:vs.length=1\/vs.length=2)(e2:lo 2=some (bQ c ep))(e7:lo 7=some (.list (vs.map aH).reverse vs.length)):Gen (aS 12) 40 c w lo (xX c w (vs.map cV)):=by
 have z:=fun q=>yD (l:=2) (p:=.ref 2) (y:=.lit (bh w)) e2 (J (QJ _)<|e7) (uW vs) q;refine AM (ep:=ep) (up:=false) (l:=2) (cs:=vs.map fun v=>(V.none,cV v)) ?_ fun k=>?_
 ·refine J (G lo ep _) ?_
  match vs,hl with
  | [a],_=>rfl
  | [a,b],_=>rfl
  | [],h=>exact h.elim (fun q=>nomatch q) fun q=>nomatch q
  |_::_::_::_,h=>rcases h with q|q<;>simp at q
 ·(refine J (jP 11) ?_;(rw [Pg];exact J (Pg _)<|J ((z _).1)<|J ((z _).2) rfl))
theorem Cw(G:GU c w){vs:List (Int×bz)}(hl:vs.length=1\/vs.length=2\/vs.length=3)(e2:lo 2=some (bQ c ep))(e7:lo 7=some (.list (vs.map hZ).reverse vs.length)):Gen (aS 12) 41 c w lo (uK c w (vs.map qf)):=by
 have z:=fun q=>yD (l:=3) (p:=.ref 2) (y:=.lit (bh w)) e2 (J (QJ _)<|e7) (vk vs) q;refine AM (ep:=ep) (up:=true) (l:=3) (cs:=vs.map qf) ?_ fun k=>?_
 ·refine J (G lo ep _) ?_
  match vs,hl with
  | [a],_=>rfl
  | [a,b],_=>rfl
  | [a,b,d],_=>rfl
  | [],h=>rcases h with q|q|q<;>exact nomatch q
  |_::_::_::_::_,h=>rcases h with q|q|q<;>simp at q
 ·(refine J (jP 11) ?_;(rw [O6];exact J (O6 _)<|J ((z _).1)<|J ((z _).2) rfl))
end
section
variable{X:CK}{w:cq}
theorem rG{O:CK}{m:Loc}{h:Hp}{kn kb:KL}{k:KV}:aF O .skip m h kn kb k=kn m h:=rfl
theorem JB(hn:h.next<=4096):gG 4096 h q=q (gH h.obj .nl 4096 h.used):=by
 cases h with|mk a b t n u=>
 refine(?_ :ay (Nat.ble n 4096) (q _) none=_);refine J (QH hn) ?_;rfl
theorem z9{f:Nat}{P:List Op}{T1:Tb}{q:PM}{kd:Option Nat}{mn:Nat}{pl:V}(g:Gen (aa (aa (aa (aa X)))) f c w lo P)(e3:lo 3=some (.dI (cy T0) ep))(e5:lo 5=some (.dI (cy T1) ep2))(nd0:(T0.map (·.1)).Nodup)(l0:T0.length<=8)(l1:T1.length<=20)(hs:Aw T1)(x:Ex (aG c).length P 0 (Jh c T0) (oe w kd) q)(iq:Inv c T1 q)(hq:q.ch=Ez w mn kd)(hk:kd≠none->bX w=false):
  ∃wr pg h1 h2,(∀k,aa (aa (aa (aa X))) (.fn f) [.ref 2,.ref 7,.lit (bh w)] (bH lo 8) k=k (.fl [wr,pg]) h1)/\∀k,aa (aa (aa (aa X))) (.fn 49) [pl,.ref 3,wr,pg,.lit (bh w),.fl [.ref 5,vi mn,lC kd]] h1 k=k (.bool true) h2:=by
 refine eO g fun wr pg ops h1 g1 M ψ7=>fp ψ7 fun pr hP ψ0=>fp ψ0 fun hn o3 o5=>xE (zk M pr hP (o3.trans e3) (o5.trans e5) nd0 l0 l1 hs x iq hq hk) fun h2 r=>⟨wr,pg,h1,h2,g1,fun k=>by(refine J (P4 _)<|J (JB hn) ?_);exact r k⟩
structure Top(lo:Nat->Option aB)(c:fZ)(T0 T5:Tb):Prop where
 s:pL lo
 e2:∃ep,lo 2=some (bQ c ep)
 e3:∃ep,lo 3=some (.dI (cy T0) ep)
 e5:∃ep,lo 5=some (.dI (cy T5) ep)
theorem Top.but{lo lo':Nat->Option aB}{T5:Tb}(t:Top lo c T0 T5)(s:pL lo')(h:∀i,i≠1->6 > i->lo' i=lo i):Top lo' c T0 T5:=⟨s,J (h 2 (by decide) (by decide))<|t.e2,J (h 3 (by decide) (by decide))<|t.e3,J (h 5 (by decide) (by decide))<|t.e5⟩
structure MO(c:fZ)(T0:Tb):Prop where
 nd:(T0.map (·.1)).Nodup
 co:dp c T0
 ln:T0.length<=3
 bd:ue 100 T0
 ky:c.keyed=true->∀e∈T0,e.2.1≠none
 df:∀d,c.dflt=some d->d.natAbs<=10
theorem O3(GA:GI c w)(t:Top lo c T0 T0)(tb:MO c T0)(eX:aa (aa (aa (aa X)))=aS 12):∃h',∀k,aF (aa (aa (aa (aa X)))) (ja (fQ 7)) (mL m (.ref 1) (.ref 2) (.ref 3) (.lit (bh w)) (.ref 5)) (bH lo 7) (fun m h=>aF (aa (aa (aa (aa X)))) (.seq (fQ 8) .skip) m h (fun Y h=>k .none h) (fun Y Y=>none) k) (fun Y Y=>none) k=k (.bool true) h':=by
 refine br (Fh (O:=aa (aa (aa X))) (n:=7) t.s (t:=2) (by decide) (by decide)) fun d lo1 hd s1 b1 g1=>?_;obtain⟨j,rfl⟩:∃j:Nat,d=j:=⟨d.toNat,by lia⟩
 obtain g1:∀k,aa (aa (aa (aa X))) (.fn 31) [.ref 1,vi 2] (bH lo 7) k=k (vi j) (bH lo1 7):=g1;obtain t1:=t.but s1 fun i h Y=>b1 i h;refine bf (zu (O:=aa X) (n:=7) s1 (j:=1+j) (by decide) (by decide) (by lia)) fun vs lo2 lv rb s2 e7 b2 g2=>?_;have t2:=t1.but s2 fun i h h7=>b2 i h (by first|decide|exact fun e=>ai 0x1c3140045183140041003003081181 rfl h7 e);refine xE t2.e2 fun ep2 e2=>xE t2.e3 fun ep3 e3=>xE t2.e5 fun ep5 e5=>?_;obtain l3:=tb.ln;refine gY (LI (O:=aa X) (n:=8) (w:=w) (by decide) (by decide) e2 e5 (by decide) (by decide) (by decide) e7 tb.nd (by lia)) fun ep' lo3 nd1 ln1 e5' b3 g3=>bP (DQ (w:=w) vs (by lia) (Jk tb.nd) tb.co rfl) fun q x iq hq=>?_;obtain bd1:=qx vs T0 0 100 (fun d h=>QQ (tb.df d h) (by decide)) tb.bd fun v hv=>(rb v hv).up (by decide);obtain gen:=eX▸C3 GA (by lia) ((b3 2 (by decide)).trans e2) ((b3 7 (by decide)).trans e7)
 obtain⟨wr,pg,h1,h2,g4,g5⟩:=z9 gen ((b3 3 (by decide)).trans e3) e5' tb.nd (by first|decide|exact ai 0x30c50010080c5040001 rfl l3) (by lia) (bd1.up (by lia)).sml x iq hq fun hk=>by
  refine fE (bX w) (fun hi=>?_) fun hi=>?_
  ·exact absurd (pR hi vs T0 0) hk
  ·rfl
 refine⟨h2,fun k=>?_⟩;refine J K_<|J (PA _)<|J (g1 _) ?_;refine J (show cm (bH lo1 7) (vi 1) (vi j)=some (vi (1+j)) by rfl)<|J ab<|J (g2 _)<|J aN<|J (Qa _)<|J (g3 _)<|J Pa<|J aN ?_;refine(Qq (.ref 7) (vi (ak c w vs T0 0).2.1) (lC (ak c w vs T0 0).2.2)).trans ?_;refine J (g4 _)<|J Pb<|J rG<|J aN ?_;exact(PV (.ref 7) (vi (ak c w vs T0 0).2.1) (lC (ak c w vs T0 0).2.2) wr pg).trans (g5 k)
theorem Qr(GA:GU c w)(t:Top lo c T0 T0)(tb:MO c T0)(ne:T0≠ [])(eX:aa (aa (aa (aa X)))=aS 12):∃h',∀k,aF (aa (aa (aa (aa X)))) (xQ (fQ 7)) (mL m (.ref 1) (.ref 2) (.ref 3) (.lit (bh w)) (.ref 5)) (bH lo 7) (fun m h=>aF (aa (aa (aa (aa X)))) (.seq (fQ 8) .skip) m h (fun Y h=>k .none h) (fun Y Y=>none) k) (fun Y Y=>none) k=k (.bool true) h':=by
 have l3:=tb.ln;have l1:1<=T0.length:=List.length_pos_iff.mpr ne;refine xE t.e2 fun ep2 e2=>xE t.e3 fun ep3 e3=>bf (Al (O:=aa X) (n:=7) t.s (by decide) (by decide) e2 e3 (by first|decide|exact ai 0x30c50010320c5040001 rfl l3) tb.bd (by decide) tb.ky tb.nd) fun vs lo2 lv pv s2 e7 b2 g2=>?_;have t2:=t.but s2 fun i h h7=>b2 i h (by first|decide|exact fun e=>ai 0x1c3140045183140041003003081181 rfl h7 e);refine xE t2.e2 fun ep2 e2=>xE t2.e3 fun ep3 e3=>xE t2.e5 fun ep5 e5=>?_;have hv:∀v∈vs,c.keyed=true->v.2.1≠none:=fun v h=>(pv v h).2;refine gY (OQ (O:=aa X) (n:=8) (w:=w) (by decide) (by decide) e2 e5 (by decide) (by decide) (by decide) e7 hv tb.nd (by first|decide|exact ai 0x30c50010280c5040001 rfl l3)) fun ep' lo3 nd1 ln1 e5' b3 g3=>bP (B8 (w:=w) vs hv (by first|decide|exact ai 0x1850010830c6001000000064105080002 rfl l3 lv) (Jk tb.nd) tb.co rfl) fun q x iq hq=>?_;obtain bd1:=qw vs T0 0 200 (fun d h=>QQ (tb.df d h) (by decide)) (tb.bd.up (by decide)) fun v hv=>⟨QQ (pv v hv).1.1 (by decide),(pv v hv).1.2⟩
 obtain gen:=eX▸Cw GA (by lia) ((b3 2 (by decide)).trans e2) ((b3 7 (by decide)).trans e7)
 obtain⟨wr,pg,h1,h2,g4,g5⟩:=z9 gen ((b3 3 (by decide)).trans e3) e5' tb.nd (by first|decide|exact ai 0x30c50010080c5040001 rfl l3) (by first|decide|exact ai 0x1850010030c60010140c5080002 rfl l3 ln1) (bd1.up (by decide)).sml x iq hq fun hk=>by
  refine fE (bX w) (fun hi=>?_) fun hi=>?_
  ·exact absurd (lL hi vs T0 0) hk
  ·rfl
 refine⟨h2,fun k=>?_⟩;refine J M8<|J (u0 _)<|J (g2 _)<|J aN<|J (u1 _)<|J (g3 _)<|J Pa<|J aN ?_;refine(u2 (.ref 7) (vi (az c w vs T0 0).2.1) (lC (az c w vs T0 0).2.2)).trans ?_;refine J (g4 _)<|J Pb<|J rG<|J aN ?_;exact(P3 (.ref 7) (vi (az c w vs T0 0).2.1) (lC (az c w vs T0 0).2.2) wr pg).trans (g5 k)
end
section
variable{k:KV}
theorem Fj(hi:i < 1024)(e:lo i=some (.dL es ep))(hl:es.length<=60000)(a:Nat)(hx:di x=some a):eP (bH lo n) (.ref i) x v=some (bH (bD lo i (.dL (aP Nat.beq a v es) (qs (aL Nat.beq es a) ep))) n):=by have o:(bH lo n).obj i=some (.dL es ep):=(kj hi).trans e;refine((hX o _ _).trans (dk o _ _)).trans ((k7 o _ _).trans ?_);refine J hx<|(?_ :bg (Nat.ble (aq es) 60000) (some ((bH lo n).set i (.dL (aP Nat.beq a v es) (qs (aL Nat.beq es a) ep))))=_);exact J (show aq es=es.length from aw es)<|J (fz hl)<|J dd<|J (uB hi) rfl
theorem N4(e:lo 2=some (.dL [(431199184235,a),(32770348699510116,b)] ep))(q:Hp->KX):ag (eP (bH lo n) (.ref 2) (.lit 1919508848) x) (fun h=>ag (eP h (.ref 2) (.lit 1701998445) y) q)=q (bH (bD lo 2 (.dL [(431199184235,a),(32770348699510116,b),(1919508848,x),(1701998445,y)] (ep+2))) n):=by
 (refine J (Fj (by decide) e (by refine(?_ :2<=60000);decide) 1919508848 rfl) ?_;refine J ab<|J (Fj (by decide) d9 (by refine(?_ :3<=60000);decide) 1701998445 rfl) ?_;refine J ab<|J gj ?_);rfl
theorem HN(e3:lo 3=some (.dI (cy T0) ep))(hT:T0.length<=8)(hn:n < 1024):eV 5 (.ref 3) (bH lo n) k=k (.ref n) (bH (bD lo n (.dI (cy T0) T0.length)) (n+1)):=by obtain o:=(kj (by decide)).trans e3;refine(dk o _ _).trans<|(?_ :bg (Nat.ble (aq (cy T0)) 8) (dt (bH lo n) (.dI (cy T0) (aq (cy T0))) k)=_);exact J (aw _)<|J (show(cy T0).length=T0.length from QJ ..)<|J (fz hT)<|J dd<|J (ut hn) rfl
theorem JI(e3:lo 3=some (.dI (cy T0) ep))(e6:lo 6=some (.dI [] ep2)):ba (bH lo n) .Eq (.ref 3) (.ref 6)=some (Nat.beq T0.length 0):=by
 have o:(bH lo n).obj 3=some (.dI (cy T0) ep):=(kj (by decide)).trans e3;obtain o6:(bH lo n).obj 6=some (.dI [] ep2):=(kj (by decide)).trans e6;obtain z:gV (bH lo n) (.ref 3)=none:=by refine(?_ :aj ((bH lo n).obj 3) (fun o=>dR o none fun rs Y=>some (bC rs))=none);refine J o ?_;rfl
 refine(?_ :@Option.rec (List V) (fun Y=>Option Bool)
  (iD (bH lo n) (.ref 3) (lR (.ref 3) (.ref 6)) fun Y es Y=>iD (bH lo n) (.ref 6) none fun Y fs Y=>@Bool.rec (fun Y=>Option Bool) (some false) (IZ fs es) (Nat.beq (aq es) (aq fs)))
  (fun xs=>aj (gV (bH lo n) (.ref 6)) fun ys=>@Bool.rec (fun Y=>Option Bool) (some false) (tV lR xs ys) (Nat.beq (aq xs) (aq ys))) (gV (bH lo n) (.ref 3))=_)
 refine J z<|(dk o _ _).trans<|Eq.trans rfl<|(dk o6 _ _).trans ?_;cases T0<;>rfl
theorem q9(hs:pL lo)(ht:0 < t)(t9:t < 1000)(X:CK)(n:Nat):∃(j:Nat) (lo':Nat->Option aB),j < t/\pL lo'/\Iy 1 lo lo'/\∀k,aa X (.fn 31) [.ref 1,vi t] (bH lo n) k=k (vi j) (bH lo' n):=by
 refine br (Fh (O:=X) (n:=n) hs (t:=t) (by lia) (by lia)) fun x lo' h s b g=>?_;obtain⟨j,rfl⟩:∃j:Nat,x=j:=⟨x.toNat,by lia⟩
 exact⟨j,lo',by lia,s,b,g⟩
theorem Dv(j:Nat):∃b,∀h,ba h .Eq (vi j) (vi 0)=some b:=⟨_,fun Y=>rfl⟩
theorem pL.up(hs:pL lo)(h:i≠1):pL (bD lo i o):=by exact dy hs fun a b e hb=>⟨a,b,(bW (Ne.symm h)).trans e,hb⟩
end
section
variable{w:cq}
theorem F9(h:x∈MV):∃w,x=.lit (bh w):=by simp only[MV,List.mem_cons,List.not_mem_nil,or_false] at h;rcases h with h|h|h|h|h|h<;>exact⟨_,h⟩
theorem Kj(h:x∈oH.map ov):∃o,x=ov o/\∀d,o=some d->d.natAbs<=10:=by
 simp only[oH,List.map_cons,List.map_nil,List.mem_cons,List.not_mem_nil,or_false] at h;refine Or.elim h (fun h=>?_) fun ρ=>Or.elim ρ (fun h=>?_) fun h=>?_
 ·exact⟨_,h,fun d q=>nomatch q⟩
 ·exact⟨_,h,fun d q=>by refine bt q ?_;decide⟩
 ·exact⟨_,h,fun d q=>by refine bt q ?_;decide⟩
theorem Dk(GA:GI c w)(GB:GU c w)(t:Top lo c T0 T0)(tb:MO c T0):∃h',∀k,aF (aS 12) (.seq (fQ 7) (.seq (fQ 8) .skip)) (mL m (.ref 1) (.ref 2) (.ref 3) (.lit (bh w)) (.ref 5)) (bH lo 6) (fun Y h=>k .none h) (fun Y Y=>none) k=k (.bool true) h':=by
 have t6:Top (bD lo 6 (.dI [] 0)) c T0 T0:=t.but (t.s.up (by decide)) fun i h h7=>bW (by first|decide|exact fun e=>ai 0x183140045183140041003003080181 rfl h7 e);refine xE t6.e3 fun ep3 e3=>?_;have eX:aa (aa (aa (aa (aS 8))))=aS 12:=rfl;obtain z:=JI e3 d9;have st:∀k,aF (aS 12) (.seq (fQ 7) (.seq (fQ 8) .skip)) (mL m (.ref 1) (.ref 2) (.ref 3) (.lit (bh w)) (.ref 5)) (bH lo 6) (fun Y h=>k .none h) (fun Y Y=>none) k=_:=fun k=>by rw [aN,l7,ut (by decide),z,ab]
 refine fE (Nat.beq T0.length 0) (fun e=>?_) fun e=>?_
 ·refine xE (O3 (m:=m) GA t6 tb eX) fun h' g=>⟨h',fun k=>(st k).trans ?_⟩
  rw [e];exact g k
 ·have ne:T0≠ []:=by rintro rfl;exact nomatch e
  refine br (q9 t6.s (t:=2) (by decide) (by decide) (aS 11) 7) fun j lo2 hj s2 b2 g2=>xE (Dv j) fun b eb=>?_;have t2:=t6.but s2 fun i h Y=>b2 i h
  have st2:∀k,aF (aS 12) (.seq (fQ 7) (.seq (fQ 8) .skip)) (mL m (.ref 1) (.ref 2) (.ref 3) (.lit (bh w)) (.ref 5)) (bH lo 6) (fun Y h=>k .none h) (fun Y Y=>none) k=_:=fun k=>(st k).trans (by
   rw [e,show xor false true=true from rfl,iI,jP 11,g2,eb,ab])
  cases b with
  |true=>exact xE (O3 GA t2 tb eX) fun h' g=>⟨h',fun k=>(st2 k).trans (g k)⟩
  |false=>exact xE (Qr GB t2 tb ne eX) fun h' g=>⟨h',fun k=>(st2 k).trans (g k)⟩
theorem H_(vs:List bz)(df:∀d,c.dflt=some d->d.natAbs<=10)(hv:∀v∈vs,RB 10 v)(hl:vs.length<=3)(h1:(ak c .ignore vs [] 0).1.length<=3):MO c (ak c .ignore vs [] 0).1:=by have z:=qI (c:=c) (w:=.ignore) vs [] 0 (fun x Y e1 h=>nomatch h) .nil;exact⟨z.2,z.1,h1,(qx vs [] 0 10 df (fun e h=>nomatch h) hv).up (by first|decide|exact ai 0xc314004000000190414a0c0040001 rfl hl),m7 vs [] 0 (fun Y e h=>nomatch h),df⟩
theorem Ft(GA:∀c w,GI c w)(GB:∀c w,GU c w){is:List Int}(hl:is.length<=1000):∃h',∀k,aS 13 (.fn 52) [.fl (is.map V.int)] (bH lo 1) k=k (.bool true) h':=by
 refine bP (Ln (lo:=lo) (O:=aS 11) hl) fun lo1 s1 b1 g1=>br (q9 s1 (t:=2) (by decide) (by decide) (aS 11) 2) fun d1 lo2 Y s2 b2 g2=>br (Ky (O:=aS 10) (n:=2) s2 (xs:=oH.map ov) (fun h=>nomatch h) (by show 3<=100;exact by decide)) fun x lo3 hx s3 b3 g3=>an (Kj hx) fun o ρ df=>?_;subst ρ;refine xE (Dv d1) fun c1 q1=>br (q9 (s3.up (i:=2) (o:=.dL [(431199184235,.bool c1),(32770348699510116,ov o)] 2) (by decide)) (t:=2) (by decide) (by decide) (aS 11) 3) fun d4 lo4 Y s4 b4 g4=>br (q9 s4 (t:=3) (by decide) (by decide) (aS 11) 3) fun d5 lo5 Y s5 b5 g5=>xE (Dv d4) fun c4 q4=>xE (Dv d5) fun c5 q5=>?_;obtain e2:=(b5 2 (by decide)).trans ((b4 2 (by decide)).trans d9);let c:fZ:=⟨c1,c4,c5,o⟩
 obtain s7:pL (bD (bD lo5 2 (bQ c 4)) 3 (.dI [] 0)):=(s5.up (by decide)).up (by decide);refine br (q9 s7 (t:=3) (by decide) (by decide) (aS 11) 4) fun j lo8 hj s8 b8 g8=>bf (zu (O:=aS 9) (n:=4) s8 (j:=1+j) (by decide) (by decide) (by first|decide|exact ai 0xc31400412831410c0040001 rfl hj)) fun vs lo9 lv rb s9 e4 b9 g9=>?_;have e92:=(b9 2 (by decide) (by decide)).trans ((b8 2 (by decide)).trans ((bW (by decide)).trans d9));obtain e93:=(b9 3 (by decide) (by decide)).trans ((b8 3 (by decide)).trans d9);refine gY (LI (O:=aS 9) (n:=5) (w:=.ignore) (T:= []) (by decide) (by decide) e92 e93 (by decide) (by decide) (by decide) e4 .nil (by show 0+vs.length<=50;exact ai 0x1810c01400420c3180041c831400c0080002 rfl hj lv)) fun ep3 lo10 nd ln e103 b10 g10=>?_;have ln3:=QQ ln (by show 0+vs.length<=3;exact ai 0x1810c01400420c31800410c31400c0080002 rfl hj lv);obtain tb:=H_ vs df rb (by first|decide|exact ai 0x60430050010830c60010430c5080002 rfl hj lv) ln3;obtain s10:pL lo10:=by exact dy s9 fun a b h1 h2=>⟨a,b,(b10 1 (by decide)).trans h1,h2⟩
 refine br (Ky (O:=aS 10) (n:=5) s10 (xs:=MV) (fun h=>nomatch h) (by show 6<=100;exact by decide)) fun y lo11 hy s11 b11 g11=>xE (F9 hy) fun w ρ=>?_;subst ρ;have e113:=(b11 3 (by decide)).trans e103
 obtain t12:Top (bD lo11 5 (.dI (cy (ak c .ignore vs [] 0).1) (ak c .ignore vs [] 0).1.length)) c (ak c .ignore vs [] 0).1 (ak c .ignore vs [] 0).1:=
  ⟨s11.up (by decide),⟨4,(bW (by decide)).trans ((b11 2 (by decide)).trans ((b10 2 (by decide)).trans e92))⟩,⟨ep3,(bW (by decide)).trans e113⟩,⟨_,d9⟩⟩
 refine xE (Dk (m:=M4 (fun Y=>none) (.fl (is.map V.int))) (GA c w) (GB c w) t12 tb) fun h' g=>⟨h',fun k=>?_⟩
 (rw [jP 12];refine J (OP _)<|J H6<|J (Qf _ _)<|J aN<|J (l0 _)<|J (jP 11)<|J (g1 _)<|J aN<|J l1<|J (g2 _)<|J (q1 _)<|J ab<|J (show aS 11=aa (aS 10) from rfl)<|J (g3 _)<|J (ut (by decide))<|J aN ?_)
 refine(l2).trans ?_
 (rw [show aa (aS 10)=aS 11 from rfl];refine J (g4 _)<|J (q4 _)<|J ab<|J (g5 _)<|J (q5 _)<|J ab<|J (N4 e2 _)<|J aN<|J l3<|J (ut (by decide))<|J aN ?_)
 refine(l4).trans ?_;obtain g8:∀k,aa (aS 11) (.fn 31) [.ref 1,vi 3] (bH (bD (bD lo5 2 (.dL [(431199184235,.bool c1),(32770348699510116,ov o),(1919508848,.bool c4),(1701998445,.bool c5)] (2+2))) 3 (.dI [] 0)) (3+1)) k=k (vi j) (bH lo8 4):=g8;obtain g9:∀k,aa (aS 11) (.fn 50) [.ref 1,vi (1+j)] (bH lo8 4) k=k (.ref 4) (bH lo9 5):=g9;obtain g10:=g10;obtain g11:=g11
 (rw [g8];refine J ((show∀h,cm h (vi 1) (vi j)=some (vi (1+j)) from fun Y=>rfl) _)<|J ab<|J (g9 _)<|J (g10 _)<|J aN ?_)
 refine(l5).trans ?_;(refine J (g11 _) ?_;rw [aN]);rw [l6];rw [HN e113 (by first|decide|exact ai 0x30c50010080c5040001 rfl ln3) (by decide)];exact g k
end
end
section
set_option maxRecDepth 100000
set_option maxHeartbeats 0
open PySem PySem.Calls PyProof.Rows PySem.W PySem.SeqAt
open Classical in
def nH(c:Prop)(x:KX):KX:=if c then x else none
theorem ot{x:KX}(e:nH c x=some r):c/\x=some r:=by
 delta nH at e;split at e
 ·exact⟨‹_›,e⟩
 ·exact nn e
theorem oT{x:KX}(h:c):nH c x=x:=QM h
noncomputable def sK(ft:ST)(fb:SS)(kn:KL)(kr:KV):List Nat->Loc->Hp->KX
 | [],m,h=>kn m h
 |c::cs,m,h=>ft m h (.lit c) fun m h=>fb m h (fun m h=>sK ft fb kn kr cs m h) (fun Y Y=>none) kr
structure o_(σ:VS)(it:Addr)(x:Str)(t:Tok)(i:Nat):Prop where
 w:∃o,σ.g.w it=.f o
 r:σ.s.heap.IsStrIter it "str_ascii_iterator" x t i
theorem o_.le(x:o_ σ it z t i)(l:Le P σ τ)(n:¬P it):o_ τ it z t i:=by obtain⟨⟨o,e⟩,o',ho,q⟩:=x;refine xA (l.keep n (by refine J e ?_;rfl:(σ.g.w it).ob=some o)) fun q1 q2=>?_;exact⟨⟨o,q1.trans e⟩,o',q2.trans ho,q⟩
theorem yh{N:Nat}(hN:(am N).cps=cs.toArray)(h7:(am N).cps.all (· < 128)=true)(h1:∀c∈cs,am c=⟨#[c]⟩)(it:jr n ns ft xt)(ht:∀i v,letOwnedTupleGo xt i v=pure ())(ie:a9 n ns fe xi)(ib:dS n EP ns fb xb)(c:gw xi=false):
  c_ n EP ns (fun m h kn kb kr=>fe m h fun v h=>nH (v=.lit N) (sK ft fb kn kr cs m h)) (.For xt xi xb [] pos):=by
 intro A hA σ env m fr ep kn kb kr r e Q E hQ;refine wpAny_For (ie A hA σ env m fr _ r e _ E fun τ a u l ra e=>?_) (fun x=>jG c x);refine xA (ot (show nH (a=.lit N) (sK ft fb kn kr cs m τ.H)=some r from e)) fun av e2=>?_;subst av;refine xE (dh ra) fun t ρ=>J ρ<|wpAny_pyIter_ascii h7<|cR (τ.mkIt rfl) fun τ2 l2 eh es fw fg=>aQ es ?_;generalize hI:τ.s.heap.objs.size=I at fw fg;have fI:=hI▸τ.r.live _ (bu _);have it2:o_ τ2 I (am N) t 0:=⟨⟨_,fw⟩,_,fg,rfl,rfl⟩
 have fr1:=fr.le l;obtain fr2:=fr1.le l2;have nI:∀b,iV ns env b->b≠I:=fun b q z=>by refine an (fr1.has q) fun o eo Y=>?_;(obtain eo:=z▸eo;obtain eo:=fI▸eo);exact nn eo
 have nO:¬dF ns env I:=fun q=>nI I q.has rfl;have out:∀{υ},Le (fun b=>dF ns env b\/b=I) τ2 υ->Le (dF ns env) σ υ:=fun l3=>(l.wide.trans (l2.wide.trans l3)).drop (iY l fI);let Inv:Nat->Shared->Prop:=fun k s1=>∃υ m i,s1=υ.s/\i+k=cs.length/\Le (fun b=>dF ns env b\/b=I) τ2 υ/\Fr υ ns env m/\o_ υ I (am N) t i/\sK ft fb kn kr (cs.drop i) m υ.H=some r;refine codeAny_forLoop_any Inv (fun k s1 hi=>?_) cs.length ⟨τ2,m,0,rfl,Nat.zero_add _,.refl _,fr2,it2,J eh<|e2⟩;refine bI hi fun υ m i ρ hk l3 f3 it3 e=>J ρ ?_;have op:pX υ.g I:=⟨.inr it3.w⟩
 have hx:(am N).cps[i]? =(cs.drop i).head?:=by(refine J hN<|J (List.head?_drop) ?_);simp
 generalize hd:cs.drop i=ds at e hx
 cases ds with
 |nil=>refine wpAny_pyNext_ascii_end hA.h it3.r hx fun h' eb=>wpAny_execs_nil ?_;have l4:Le (· =I) υ (υ.put (h':=h') I .free υ.s.toks op (fun c n m=>xE (υ.r.old m) fun x e=>J e<|eb c x n e) .free):=υ.put_le (.inr rfl);exact hQ.next (υ.put (h':=h') I .free υ.s.toks op (fun c n m=>xE (υ.r.old m) fun x e=>J e<|eb c x n e) .free) m (out (l3.trans (l4.incl fun b q=>.inr q))) (f3.leO l4 nI) e
 |cons c eI=>
  refine wpAny_pyNext_ascii_item it3.r hx fun h' q' sb=>an (id q') fun o' ho' Y=>?_;have l4:Le (· =I) υ (υ.put I (.f o') (υ.s.toks+1) op (fun c n Y=>sb.2 c n) (.f o' ho')):=υ.put_le (.inr rfl);obtain f4:=f3.leO l4 nI;obtain it4:o_ (υ.put I (.f o') (υ.s.toks+1) op (fun c n Y=>sb.2 c n) (.f o' ho')) I (am N) t (i+1):=⟨⟨o',cQ _ _ _⟩,q'⟩
  obtain hc:=List.mem_of_mem_drop (J hd<| .head _);have rv:∀g,VR g (.lit c) (.str ⟨#[c]⟩ υ.s.toks):=fun g=>by obtain this:=VR.lit c υ.s.toks;rwa [h1 c hc] at this
  refine wpAny_of_eq (ht _ _) ?_;obtain l04:=l3.trans (l4.incl fun b q=>.inr q);refine it A hA _ env m f4 (.lit c) _ _ r e (rv _) _ _ fun φ m' l5 f5 e=>?_;have it5:=it4.le l5 nO;have l05:=l04.trans (l5.incl fun b q=>.inl q);obtain hr:cs.drop (i+1)=eI:=by(refine aQ List.tail_drop<|J hd ?_);rfl
  obtain hlen:=congrArg List.length hd;rw [List.length_drop,List.length_cons] at hlen;refine ib A hA φ env m' f5 ep _ _ _ r e _ _ ⟨fun ψ m2 l6 f6 e=>?_,fun ψ m2 l6 f6 e=>nn e,fun ψ v u l6 rv e=>hQ.ret ψ v u (out (l05.trans (l6.incl fun b q=>.inl q))) rv e⟩;exact⟨k - 1,by omega,ψ,m2,i+1,rfl,by omega,l05.trans (l6.incl fun b q=>.inl q),f6,it5.le l6 nO,J hr<|e⟩
section
variable{ex xe xt xi xc o:Expr}
noncomputable def nM(f g:SS):SS:=fun m h kn kb kr=>f m h (fun m h=>g m h kn kb kr) kb kr
noncomputable def wU:SS:=fun m h kn Y Y=>kn m h
noncomputable def Pd(f:SE):SS:=fun m h kn Y Y=>f m h fun Y h=>kn m h
noncomputable def GP(f:SE):SS:=fun m h Y Y kr=>f m h kr
noncomputable def Gs(f:SE)(t:ST):SS:=fun m h kn Y Y=>f m h fun v h=>t m h v kn
def MZ(c:SE)(a b:SS):SS:=fun m h kn kb kr=>c m h fun v h=>ag (vBool v) fun t=>ay t (a m h kn kb kr) (b m h kn kb kr)
noncomputable def AV:SS:=fun Y Y Y Y Y=>none
noncomputable def NP(f:SE):yd:=fun m h k=>f m h fun v h=>k [v] h
theorem vI:dS n EP ns AV stmts:=fun A hA σ env m fr ep kn kb kr r e=>nn e
theorem re:dS n EP ns wU []:=fun A hA σ env m fr ep kn kb kr r e Q E hQ=>wpAny_execs_nil (hQ.next σ m (.refl _) fr e)
theorem jZ(ia:c_ n EP ns fa stmt)(ib:dS n EP ns fb stmts):dS n EP ns (nM fa fb) (stmt::stmts):=by
 intro A hA σ env m fr ep kn kb kr r e Q E hQ;refine QC (ia A hA σ env m fr ep _ _ _ r e _ E ⟨fun τ m' l f' e=>?_,fun τ m' l f' e=>?_,fun τ v u l rv e=>?_⟩)
 ·exact ib A hA τ env m' f' ep kn kb kr r e Q E (hQ.from l)
 ·exact QD (hQ.brk τ m' l f' e)
 ·exact QD (hQ.ret τ v u l rv e)
theorem GY(ih:a9 n ns f ex)(c:pB ex=false):c_ n EP ns (Pd f) (.Expr ex pos):=by intro A hA σ env m fr ep kn kb kr r e Q E hQ;exact wpAny_Expr_any (ih A hA σ env m fr _ r e _ E fun τ v u l ru e=>hQ.next τ m l.wide (fr.le l) e) (by delta interactive;refine J fr.fnk ?_;rfl) (pc c)
theorem EU(ih:a9 n ns f ex):c_ n EP ns (GP f) (.Return (some ex) pos):=by intro A hA σ env m fr ep kn kb kr r e Q E hQ;exact wpAny_Return_some (ih A hA σ env m fr _ r e _ E fun τ v u l ru e=>hQ.ret τ v u l.wide ru e)
theorem GN(ic:jD n ns fc xc)(ia:dS n EP ns fa xa)(ib:dS n EP ns fb xb):c_ n EP ns (MZ fc fa fb) (.If xc xa xb pos):=by
 intro A hA σ env m fr ep kn kb kr r e Q E hQ;refine wpAny_If (ic A hA σ env m fr _ r e _ E fun τ t l e=>?_)
 cases t with
 |true=>exact ia A hA τ env m (fr.le l) ep kn kb kr r e Q E (hQ.from l.wide)
 |false=>exact ib A hA τ env m (fr.le l) ep kn kb kr r e Q E (hQ.from l.wide)
theorem EH(hE:∀env,EP env->env.scope.names=ns)(it:jr n ns ft xt)(ih:a9 n ns f ex)(c:swapsWithSole [xt] ex pos.line (jo ns)=pure false)(ct:aJ xt=true)(cw:swappedStores [xt] ex (jo ns)=pure none):c_ n EP ns (Gs f ft) (.Assign [xt] ex pos):=by intro A hA σ env m fr ep kn kb kr r ev Q E hQ;refine wpAny_Assign_stores (ih A hA σ env m fr _ r ev _ E fun τ v u l ru e=>?_) ((fK (hE _ ep) fr.fnk).trans c) ((gt (hE _ ep) fr.fnk).trans cw);refine J (show(assignEach [xt] env).map (·.2)= [assign xt env] by refine J (cY ct) ?_;rfl) ?_;exact it A hA τ env m (fr.le l) v u kn r e ru _ E fun υ m' l2 f' e=>hQ.next υ m' (l.wide.trans l2) f' e
theorem BP(c:aJ ex=true)(ih:a9 n ns f ex):xf n ns (NP f) [ex]:=by intro A hA σ env m fr k r e pos Q E hQ;refine J (cZ c)<|(?_ :wpAny _ _ (spliced ((false,eval ex env)::backTo pos (starEach [] env))) _ _ _);exact spliced_cons (ih A hA σ env m fr _ r e _ E fun τ v u l ru e=>spliced_nil (hQ τ _ _ l (.cons ru .nil) rfl e))
theorem qd(hA:bZ n A)(hs:aJ ex=true)(il:xf n ns fs [ex])(fr:Fr σ ns env m)(e:fs m σ.H k=some r)(hk:Keeps P fv)(hP:∀τ,Le dH σ τ->P τ.s.heap)
  (h:FJ σ k r 1 fun vals s=>wpAny M A (PySem.call fv (first++vals)) Q E s):wpAny M A (callWith pos fv first (backTo pos (starEach [ex] env)) []) Q E σ.s:=by
 obtain hs': [ex].all aJ=true:=by refine(?_ :(and (aJ ex) true)=true);refine J hs ?_;rfl
 have key:=il A hA σ env m fr k r e pos (fun vals s₁=>P s₁.heap/\wpAny M A (PySem.call fv (first++vals)) Q E s₁) E fun τ xs vals l rv hl e=>⟨hP τ l,h τ xs vals l rv hl e⟩
 have bp:=jK (pos:=pos) (env:=env) hs';rw [cZ hs] at key bp ⊢;exact callWith_of (by refine J bp ?_;rfl) hk (evalArgs_plain key)
def fF(f:SE)(F:V->Option V):SE:=fun m h k=>f m h fun x h=>ag (F x) fun v=>k v h
theorem E9(C:Cx)(c:qW (bK ns z)=true)(h1:nsIn K mainGlobals z=some none)(h2:nsIn K builtinsNs z=some (some bv))(hk:keeperOf bv=pure .machine)(hs:aJ ex=true)(ie:a9 n ns f ex)
  (go:∀(σ:VS) x u v A E Q,F x=some v->VR σ.g x u->bM σ σ.H v Q->wpAny M A (PySem.call bv [u]) Q E σ.s):a9 n ns (fF f F) (.Call (.Name z p) [ex] [] pos):=by
 intro A hA σ env m fr k r e Q E hQ;refine wpAny_Call_NameR (hO fr c C (.inr ⟨h1,h2⟩) ?_);refine qd (P:=fun Y=>True) hA hs (BP hs ie) fr (k:=fun xs h=>match xs with| [x]=>ag (F x) fun v=>k v h|_=>none) e (fun h Y=>eN hk) (fun Y Y=>trivial) fun τ xs vals l rv Y e=>?_
 cases rv with
 |nil=>exact nn e
 | @cons x u xs vals r1 r2=>
  cases r2 with
  |cons=>exact nn e
  |nil=>exact an (aZ (show ag (F x) (fun v=>k v τ.H)=some r from e)) fun v e1 e=>go τ x u v A E Q e1 r1 ((hQ.from l).toV e)
theorem gO(h0:0 < c)(h:c < 256):am c=⟨#[c]⟩:=by
 have e:=yZ [c] c (fun x hx=>pQ hx (⟨h0,h⟩) fun q=>(by cases q)) (by exact lin 0x1400c4001140000001 rfl _);obtain e2:cL [c]=c:=by exact QF (lin 0x1400c4001140000001 rfl _) (lin 0x3100045005000001 rfl _)
 rw [e2] at e;delta am;exact J e rfl
def Cj(x:V):Option V:=aj (di x) fun c=>bg (decide (0 < c/\c < 256)) (some (.int (c:Nat)))
def Ca(x:V):Option V:=aj (vInt x) fun i=>bg (decide (0 < i/\i < 256)) (some (.lit i.toNat))
theorem H5(σ:VS)(x:V)(u:Value)(v:V)(A:Around)(E:Value->Shared->Prop)(Q:Value->Shared->Prop)(e:Cj x=some v)(ru:VR σ.g x u)(hQ:bM σ σ.H v Q):wpAny M A (PySem.call (.builtin "ord") [u]) Q E σ.s:=by refine an (ah e) fun c e1 e=>xA (aW e) fun h e=>xA (of_decide_eq_true h) fun h0 h1=>?_;obtain rfl:=sj e;cases iy e1;exact xE (dh ru) fun t ρ=>J ρ<|J (gO h0 h1)<|P.ord_of_char (hQ.at (.int _ _) _)
theorem H7(σ:VS)(x:V)(u:Value)(v:V)(A:Around)(E:Value->Shared->Prop)(Q:Value->Shared->Prop)(e:Ca x=some v)(ru:VR σ.g x u)(hQ:bM σ σ.H v Q):wpAny M A (PySem.call (.builtin "chr") [u]) Q E σ.s:=by refine an (ah e) fun i e1 e=>xA (aW e) fun h e=>xA (of_decide_eq_true h) fun h0 h1=>?_;obtain rfl:=sj e;cases cM e1;refine xE (cH ru) fun t ρ=>J ρ<|P.chr_of_int (by simp;omega) ?_;have rv:=VR.lit (g:=σ.g) i.toNat σ.s.toks;rw [gO (by omega) (by omega)] at rv;exact hQ.at rv _
def fM(j:Nat)(f g:SE)(B:V->V->Hp->KV->KX):SE:=fun m h k=>f m h fun x h=>ay (j0 j x h) (g m h fun y h=>B x y h k) none
theorem BD(C:Cx)(io:a9 n ns f o)(ie:a9 n ns g ex)(hz:i5 z=true)(hj:gJ I0 (cS z)=some j)(hp:fJ o=true)(hline:(apos.endLine == pos.line)=true)(hs:aJ ex=true)
  (go:∀(σ:VS) x y u w A E Q k r,bZ n A->B x y σ.H k=some r->VR σ.g x u->VR σ.g y w->Fin σ k r Q->wpAny M A (PySem.call (.builtin (Be j)) [u,w]) Q E σ.s):a9 n ns (fM j f g B) (.Call (.Attribute o z apos) [ex] [] pos):=by
 intro A hA σ env m fr k r e Q E hQ;refine J (arm_eval_Call _ _ _ _ _ _ _)<|J (jJ hp _) ?_;refine QC (io A hA σ env m fr _ r e _ E fun τ a u l ru e=>QC (wpAny_standAt ?_));obtain fr1:=fr.le l;delta methodCall;obtain hpos:methodCallPos true o env apos pos=pure pos:=by delta methodCallPos;rw [if_pos];refine J hline ?_;rfl
 refine xA (eA (show ay (j0 j a τ.H) (g m τ.H fun y h=>B a y h k) none=some r from e)) fun ok e=>?_;obtain hform:=kW (exs:= [ex]) (by refine(?_ :(and (aJ ex) true)=true);refine J hs ?_;rfl) rfl;refine J hform<|QC (QE ?_);refine pz hz hj ok ru ?_;dsimp only;refine J hpos<|QC (QD ?_);refine qd (P:=fun Y=>True) hA hs (BP hs ie) fr1 (k:=fun xs h=>match xs with| [y]=>B a y h k|_=>none) e (fun h Y=>eN rfl) (fun Y Y=>trivial) fun υ xs vals l2 rv Y e=>?_
 cases rv with
 |nil=>exact nn e
 | @cons y w xs vals r1 r2=>
  cases r2 with
  |cons=>exact nn e
  |nil=>exact go υ a y u w A E Q k r hA e (l2.vr ru) r1 (hQ.from (l.trans l2))
noncomputable def cI:List Nat:= [73,78,84,69,71,69,82]
noncomputable def cJ:List Nat:= [105,110,116,101,103,101,114]
theorem sx:∀{cs:List Nat} {vs:List Value} {g:Gh},c6 g (cs.map V.lit) vs->∃l:List (Str×Tok),vs=strValues l/\l.map (·.1)=cs.map am
 | [],vs,g,a=>by cases a;exact⟨[],rfl,rfl⟩
 |c::cs,vs,g,a=>by
  cases a with
  |cons r1 r2=>
  refine xE (dh r1) fun t ρ=>J ρ<|an (sx r2) fun l ρ h=>?_;subst ρ;exact⟨(am c,t)::l,rfl,by(refine J QV<|J h ?_);rfl⟩
theorem HS:Txt.join (am 0) (cJ.map am)=am 32199642103180905:=by kernel_rfl
theorem zE:Builtin.Str.tooLong ((cJ.map am).toArray.foldl (· + ·.length+(am 0).length) 0)=false:=by kernel_rfl
def ve(x y:V)(h:Hp)(k:KV):KX:=nH (x=.lit 0/\gV h y=some (cJ.map V.lit)) (k (.lit 32199642103180905) h)
theorem DD(σ:VS)(x y:V)(u w:Value)(A:Around)(E:Value->Shared->Prop)(Q:Value->Shared->Prop)(k:KV)(r:V×Hp)(hA:bZ n A)(e:ve x y σ.H k=some r)(ru:VR σ.g x u)(rw':VR σ.g y w)(hQ:Fin σ k r Q):wpAny M A (PySem.call (.builtin (Be 4)) [u,w]) Q E σ.s:=by
 refine xA (ot e) fun ρ e2=>?_;obtain⟨rfl,e1⟩:=ρ;refine xE (dh ru) fun t ρ=>J ρ<|aI (σ.lst e1 rw') fun D us m ρ g1 a1=>?_;subst ρ;refine an (sx a1) fun l el hl=>?_;have fit:Builtin.Str.tooLong ((l.map (·.1)).toArray.foldl (· + ·.length+(am 0).length) 0)=false:=J hl<|zE;refine call_meets PySem.F.slot_str_join rfl PySem.F.entry_str_join (PySem.F.args_str_join_2 _ _) (meets_str_join_list (am 0) t D l fit) ⟨?_,?_⟩
 ·(refine aQ el<|J Array.toArray_toList ?_);exact aU g1
 ·refine post_join l ⟨joinFit_length fit,fun t' tk=>?_⟩;refine J hl<|J HS ?_;exact(hQ.toV e2).at (.lit _ _) tk
end
section
variable{O:CK}
theorem vM(n:Nat):cS (am n)=n:=pZ n n (QR _)
noncomputable def tq(v:V):SE:=fun m h k=>k v h
theorem kh(c:tY (bK ns (am i))=true):a9 n ns (gN i) (.Name (am i) pos):=by obtain this:=qj c;rwa [vM] at this
theorem BI(e:bK ns (am i)=some .local):jr n ns (hU O (.var false i)) (.Name (am i) pos):=by obtain this:=sA e;rwa [vM] at this
theorem sf:a9 n ns (tq (.lit c)) (.Constant (.str (am c)) kk pos):=fun A hA σ env m fr k r e Q E hQ=>wpAny_Constant_str (hQ (σ.tk _) _ _ σ.tk_le (.lit c _) e)
theorem JQ:a9 n ns (tq (.int c)) (.Constant (.int c) kk pos):=fun A hA σ env m fr k r e Q E hQ=>wpAny_Constant_int (hQ (σ.tk _) _ _ σ.tk_le (.int c _) e)
def MS(f g f':SE):SE:=fun m h k=>f m h fun x h=>g m h fun y h=>nH (x=.lit 65/\∃i,y=.lit i/\65<=i/\i<=90) (f' m h fun z h=>nH (z=.lit 90) (k (.bool true) h))
theorem N9(ia:a9 n ns f xa)(ib:a9 n ns g xb)(ic:a9 n ns f' xc)(hm:lastMarks [.LtE,.LtE] [xb,xc]=false):jD n ns (MS f g f') (.Compare xa [.LtE,.LtE] [xb,xc] pos):=by
 intro A hA σ env m fr k r e Q E hQ;refine isTrue_chain (ia A hA σ env m fr _ r e _ E fun τ x u l ru e=>?_) hm;refine test_link (ib A hA τ env m (fr.le l) _ r e _ E fun υ y z l2 rz e=>?_);refine xA (ot (show nH (x=.lit 65/\∃i,y=.lit i/\65<=i/\i<=90) (f' m υ.H fun z h=>nH (z=.lit 90) (k (.bool true) h))=some r from e)) fun ρ e2=>?_;obtain⟨rfl,i,rfl,h1,h2⟩:=ρ;refine xE (dh ru) fun t ρ=>?_;refine J ρ ?_;refine xE (dh rz) fun t2 ρ=>?_;subst ρ;(refine J (gO (c:=65) (by decide) (by decide)) ?_;refine J (gO (c:=i) (by omega) (ai 0x5a105001000000100105040041 rfl h2)) ?_);refine P.le_str ?_
 have q1:(!decide ((#[i]:Array Nat).toList < (#[65]:Array Nat).toList))=true:=by
  have:¬([i] < [65]):=by refine jj List.cons_lt_cons_iff ?_;rintro(q|⟨_,q⟩)<;>first|omega|exact absurd q (by simp)
  simpa using this
 refine J q1 ?_;refine wpAny_truthy_bool ?_;refine J (QM rfl) ?_;refine test_last (ic A hA υ env m ((fr.le l).le l2) _ r e2 _ E fun φ z w l3 rw' e=>?_);refine xA (ot (show nH (z=.lit 90) (k (.bool true) φ.H)=some r from e)) fun ρ e3=>?_;subst ρ;refine xE (dh rw') fun t3 ρ=>?_;refine J ρ ?_;refine J (gO (c:=90) (by decide) (by decide)) ?_;refine P.le_str ?_
 obtain q2:(!decide ((#[90]:Array Nat).toList < (#[i]:Array Nat).toList))=true:=by
  obtain this:¬([90] < [i]):=by refine jj List.cons_lt_cons_iff ?_;rintro(q|⟨_,q⟩)<;>first|omega|exact absurd q (by simp)
  simpa using this
 refine J q2 ?_;exact wpAny_truthy_bool (hQ φ true ((l.trans l2).trans l3) e3)
def Nk(f g:SE):SE:=rB (.bin .Add) f g
abbrev jt:cW:=(EA (gB 13)).names
theorem HV:AW (gB 13)= [.Assign [.Name (am 495773510003) ⟨266,4,266,9⟩] (.List [] ⟨266,12,266,14⟩) ⟨266,4,266,14⟩,
  .For (.Name (am 1852270963) ⟨267,8,267,12⟩) (.Name (am 1954047348) ⟨267,16,267,20⟩) [.If (.Compare (.Constant (.str (am 65)) 0 ⟨268,11,268,14⟩) [.LtE,.LtE] [.Name (am 1852270963) ⟨268,18,268,22⟩,.Constant (.str (am 90)) 0 ⟨268,26,268,29⟩] ⟨268,11,268,29⟩)
   [.Expr (.Call (.Attribute (.Name (am 495773510003) ⟨269,12,269,17⟩) (am 110425311047777) ⟨269,12,269,24⟩) [.Call (.Name (am 7497827) ⟨269,25,269,28⟩) [.BinOp (.Call (.Name (am 6582895) ⟨269,29,269,32⟩) [.Name (am 1852270963) ⟨269,33,269,37⟩] [] ⟨269,29,269,38⟩) .Add (.Constant (.int 32) 0 ⟨269,41,269,43⟩) ⟨269,29,269,43⟩] [] ⟨269,25,269,44⟩] [] ⟨269,12,269,45⟩) ⟨269,12,269,45⟩]
   [.Expr (.Call (.Attribute (.Name (am 495773510003) ⟨271,12,271,17⟩) (am 110425311047777) ⟨271,12,271,24⟩) [.Name (am 1852270963) ⟨271,25,271,29⟩] [] ⟨271,12,271,30⟩) ⟨271,12,271,30⟩] ⟨268,8,271,30⟩] [] ⟨267,4,271,30⟩,
  .Return (some (.Call (.Attribute (.Constant (.str (am 0)) 0 ⟨272,11,272,13⟩) (am 1852403562) ⟨272,11,272,18⟩) [.Name (am 495773510003) ⟨272,19,272,24⟩] [] ⟨272,11,272,25⟩)) ⟨272,4,272,25⟩]:=by kernel_rfl
def t7(x y:V)(h:Hp)(k:KV):KX:=IQ 0 x [y] h k
def jA:SE:=fF (Nk (fF (gN 1852270963) Cj) (tq (.int 32))) Ca
def pq:SS:=nM (MZ (MS (tq (.lit 65)) (gN 1852270963) (tq (.lit 90))) (nM (Pd (fM 0 (gN 495773510003) jA t7)) wU) AV) wU
def Kg:SS:=fun m h kn kb kr=>gN 1954047348 m h fun v h=>nH (v=.lit 23157120498421321) (sK (hU (fun Y Y Y Y=>none) (.var false 1852270963)) pq kn kr cI m h)
def qm:SS:=nM (Gs (rC (fun Y Y Y Y=>none) (.lst true) (oW (fun Y Y Y Y=>none) .nil)) (hU (fun Y Y Y Y=>none) (.var false 495773510003))) (nM Kg (nM (GP (fM 4 (tq (.lit 0)) (gN 495773510003) ve)) wU))
theorem NZ:(bK jt (am 495773510003),bK jt (am 1852270963),tY (bK jt (am 1954047348)),qW (bK jt (am 7497827)),qW (bK jt (am 6582895)))=(some .local,some .local,true,true,true):=by kernel_rfl
theorem NB(P:Params):(nsIn (KT P) mainGlobals (am 7497827),nsIn (KT P) builtinsNs (am 7497827),nsIn (KT P) mainGlobals (am 6582895),nsIn (KT P) builtinsNs (am 6582895))=(some none,some (some (.builtin "chr")),some none,some (some (.builtin "ord"))):=by kernel_rfl
theorem Ha(G:Gl)(σ:VS)(x y:V)(u w:Value)(A:Around)(E:Value->Shared->Prop)(Q:Value->Shared->Prop)(k:KV)(r:V×Hp)(hA:bZ n A)(e:t7 x y σ.H k=some r)(ru:VR σ.g x u)(rw':VR σ.g y w)(hQ:Fin σ k r Q):wpAny M A (PySem.call (.builtin (Be 0)) [u,w]) Q E σ.s:=Af G hA e ru (.cons rw' .nil) hQ
theorem ui(C:Cx)(hE:∀env,EP env->env.scope.names=jt):dS n EP jt qm (AW (gB 13)):=by
 obtain⟨q1,q2,q3,q4,q5⟩:bK jt (am 495773510003)=some .local/\bK jt (am 1852270963)=some .local/\tY (bK jt (am 1954047348))=true/\qW (bK jt (am 7497827))=true/\qW (bK jt (am 6582895))=true:=by have:=NZ;simpa only[Prod.mk.injEq] using this
 obtain⟨b1,b2,b3,b4⟩:nsIn K mainGlobals (am 7497827)=some none/\nsIn K builtinsNs (am 7497827)=some (some (.builtin "chr"))/\nsIn K mainGlobals (am 6582895)=some none/\nsIn K builtinsNs (am 6582895)=some (some (.builtin "ord")):=by obtain this:=NB w.params;refine J K_eq ?_;simpa only[Prod.mk.injEq] using this
 have v1:tY (bK jt (am 495773510003))=true:=by refine J q1 ?_;rfl
 have v2:tY (bK jt (am 1852270963))=true:=by refine J q2 ?_;rfl
 refine J HV ?_;refine jZ (EH hE (BI q1) (sS rfl fun A hA σ env m fr k r e pos Q E hQ=>spliced_nil (hQ σ [] [] (.refl _) .nil rfl e)) rfl rfl rfl) (jZ ?_ (jZ (EU (BD C sf (kh v1) rfl rfl rfl rfl rfl fun σ x y u w A E Q k r hA e ru rw' hQ=>DD σ x y u w A E Q k r hA e ru rw' hQ)) re));refine yh (by kernel_rfl) (by kernel_rfl) (fun c hc=>?_) (BI q2) (fun Y Y=>rfl) (kh q3) (jZ (GN (N9 sf (kh v2) sf rfl) (jZ (GY (BD C (kh v1) ?_ rfl rfl rfl rfl rfl fun σ x y u w A E Q k r hA e ru rw' hQ=>Ha C.G σ x y u w A E Q k r hA e ru rw' hQ) rfl) re) vI) re) rfl
 ·exact gO (by simp only[cI,List.mem_cons,List.not_mem_nil,or_false] at hc;omega) (by simp only[cI,List.mem_cons,List.not_mem_nil,or_false] at hc;omega)
 ·exact E9 C q4 b1 b2 rfl rfl (vG (E9 C q5 b3 b4 rfl rfl (kh v2) H5) JQ) H7
end
theorem oS{k:α->KX}:ag (some a) k=k a:=rfl
theorem Km{o:aB}(e:h.obj i=some o)(z:β)(k:Nat->List V->Nat->β):hL h (.ref i) z k=dR o z (k i):=by refine(?_ :@Option.rec aB (fun Y=>β) z (fun o=>dR o z (k i)) (h.obj i)=_);exact J e rfl
theorem IN(hm:m 1852270963=some (.lit c))(h1:65<=c)(h2:c<=90):MS (tq (.lit 65)) (gN 1852270963) (tq (.lit 90)) m h k=k (.bool true) h:=by refine(?_ :ag (m 1852270963) (fun y=>nH (V.lit 65=.lit 65/\∃i,y=.lit i/\65<=i/\i<=90) (nH (V.lit 90=.lit 90) (k (.bool true) h)))=_);exact J hm<|J oS<|J (oT ⟨rfl,c,rfl,h1,h2⟩)<|J (oT rfl) rfl
theorem Dn(hm:m 1852270963=some (.lit c))(h1:65<=c)(h2:c<=90):jA m h k=k (.lit (c+32)) h:=by
 refine(?_ :ag (m 1852270963) (fun x=>ag (Cj x) fun v=>ag (eC h .Add v (.int 32)) fun v=>ag (Ca v) fun v=>k v h)=_);obtain q1:Cj (.lit c)=some (.int (c:Nat)):=by refine(?_ :bg (decide (0 < c/\c < 256)) (some (V.int (c:Nat)))=_);refine J (QO ⟨by lia,ai 0x5a105001000000100105040041 rfl h2⟩) ?_;rfl
 obtain q2:Ca (.int ((c:Nat)+32:Int))=some (.lit (c+32)):=by refine(?_ :bg (decide (0 < ((c:Nat)+32:Int)/\((c:Nat)+32:Int) < 256)) (some (V.lit ((c:Nat)+32:Int).toNat))=_);refine J (QO ⟨by lia,by lia⟩) ?_;rfl
 exact J hm<|J oS<|J q1<|J oS<|J (show eC h .Add (.int (c:Nat)) (.int 32)=some (.int ((c:Nat)+32:Int)) from rfl)<|J oS<|J q2<|J oS rfl
theorem B6(hs:m 495773510003=some (.ref i))(ho:h.obj i=some (.list rs n))(hn:n < 60000)(hm:m 1852270963=some (.lit c))(h1:65<=c)(h2:c<=90):fM 0 (gN 495773510003) jA t7 m h k=k .none (h.set i (.list (.lit (c+32)::rs) (n+1))):=by refine(?_ :ag (m 495773510003) (fun x=>ay (hL h x false fun Y Y Y=>true) (jA m h fun y h=>t7 x y h k) none)=_);refine J hs<|J oS<|J (Km ho _ _) ?_;refine(?_ :jA m h (fun y h=>t7 (.ref i) y h k)=_);refine J (Dn hm h1 h2)<|(?_ :hL h (.ref i) none (fun i rs d=>bg (Nat.blt d 60000) (k .none (h.set i (.list (.lit (c+32)::rs) (Nat.succ d)))))=_);refine J (Km ho _ _)<|(?_ :bg (Nat.blt n 60000) (k .none (h.set i (.list (.lit (c+32)::rs) (n+1))))=_);refine J (show Nat.blt n 60000=true from QH hn) ?_;rfl
def yT:ST:=hU (fun Y Y Y Y=>none) (.var false 1852270963)
theorem Aa{K:KL}{kb:KL}(hs:m 495773510003=some (.ref i))(ho:h.obj i=some (.list rs n))(hn:n < 60000)(hm:m 1852270963=some (.lit c))(h1:65<=c)(h2:c<=90):pq m h K kb kr=K m (h.set i (.list (.lit (c+32)::rs) (n+1))):=by refine(?_ :MS (tq (.lit 65)) (gN 1852270963) (tq (.lit 90)) m h (fun v h1=>ag (vBool v) fun t=>ay t (fM 0 (gN 495773510003) jA t7 m h1 fun Y h=>K m h) none)=_);refine J (IN hm h1 h2)<|(?_ :fM 0 (gN 495773510003) jA t7 m h (fun Y h=>K m h)=_);exact J (B6 hs ho hn hm h1 h2) rfl
theorem tc:∀(cs:List Nat) (m:Loc) (h:Hp) (rs:List V) (n:Nat),m 495773510003=some (.ref i)->h.obj i=some (.list rs n)->n+cs.length<=100->(∀c∈cs,65<=c/\c<=90)->
  ∃m1 h1,m1 495773510003=some (.ref i)/\h1.obj i=some (.list ((cs.map fun c=>V.lit (c+32)).reverse++rs) (n+cs.length))/\(∀j,j≠i->h1.obj j=h.obj j)/\h1.next=h.next/\h1.used=h.used/\∀kn kr,sK yT pq kn kr cs m h=kn m1 h1
 | [],m,h,rs,n,hs,ho,hn,hc=>⟨m,h,hs,ho,fun Y Y=>rfl,rfl,rfl,fun Y Y=>rfl⟩
 |c::cs,m,h,rs,n,hs,ho,hn,hc=>by
  refine xA (hc c (.head _)) fun h1 h2=>?_;obtain hn:=QK▸hn;have s2:ae m 1852270963 (.lit c) 495773510003=some (.ref i):=J ((bU (by decide)) _ _)<|hs;refine bf (tc cs (ae m 1852270963 (.lit c)) (h.set i (.list (.lit (c+32)::rs) (n+1))) (.lit (c+32)::rs) (n+1) s2 (by(exact J (Hp.obj_set _ _ _ _)<|J (QM rfl) rfl)) (ai 0x641010c60050000400000019041810c5000040002 rfl hn) fun c h=>hc c (.tail _ h)) fun m1 g q1 q2 q3 q4 q5 q6=>?_;refine⟨m1,g,q1,?_,fun j hj=>by(exact J (q3 j hj)<|J (Hp.obj_set _ _ _ _)<|J (QN hj) rfl),by(exact J q4<|J (Hp.next_set _ _ _) rfl),by(exact J q5<|J (Hp.used_set _ _ _) rfl),fun kn kr=>?_⟩
  ·refine J q2<|J QV<|J List.reverse_cons<|J (Q5 _ _ _)<|J QK ?_;refine J (show n+1+cs.length=n+(cs.length+1) by exact QF (lin 0x431801401810c5000000002 rfl _ _) (lin 0x1810c5000043180140000002 rfl _ _)) ?_;rfl
  ·refine(?_ :pq (ae m 1852270963 (.lit c)) h (fun m h=>sK yT pq kn kr cs m h) (fun Y Y=>none) kr=_);exact J (Aa s2 ho (ai 0x190404318014000100000ea60105040042 rfl hn) (du _ _ _) h1 h2)<|q6 kn kr
theorem Ap(h:Hp){m:Loc}(ht:m 1954047348=some (.lit 23157120498421321)):∃g,(∀j,j≠h.next->g.obj j=h.obj j)/\g.next=h.next+1/\g.used=h.used/\∀kn kb kr,qm m h kn kb kr=kr (.lit 32199642103180905) g:=by refine bf (tc cI (ae m 495773510003 (.ref h.next)) (h.new (.list [] 0)) [] 0 (du _ _ _) (by(exact J (Hp.obj_new _ _ _)<|J (QM rfl) rfl)) (by decide) (by decide)) fun m1 g q1 q2 q3 q4 q5 q6=>?_;refine⟨g,fun j hj=>by(exact J (q3 j hj)<|J (Hp.obj_new _ _ _)<|J (QN hj) rfl),by(exact J q4<|J (Hp.next_new _ _) rfl),by(exact J q5<|J (Hp.used_new _ _) rfl),fun kn kb kr=>?_⟩;refine(?_ :dt h (.list [] 0) (fun v h=>ag (ae m 495773510003 v 1954047348) fun x=>nH (x=.lit 23157120498421321) (sK yT pq (fun m h=>ay (j0 4 (.lit 0) h) (ag (m 495773510003) fun y=>ve (.lit 0) y h kr) none) kr cI (ae m 495773510003 v) h))=_);refine J (fA _ _ _)<|J ((bU (by decide)) _ _)<|J ht<|J oS<|J (oT rfl)<|J (q6 _ _) ?_;refine(?_ :ag (m1 495773510003) (fun y=>ve (.lit 0) y g kr)=_);refine J q1<|J oS ?_;refine oT ⟨rfl,?_⟩;refine(?_ :aj (g.obj h.next) (fun o=>dR o none fun rs Y=>some (bC rs))=_);refine J q2 ?_;rfl
theorem VS.less(τ:VS)(H:Hp)(hn:τ.H.next<=H.next)(hu:H.used=τ.H.used)(ho:∀k o,H.obj k=some o->o=.gone\/τ.H.obj k=some o):∃υ:VS,υ.s=τ.s/\υ.g=τ.g/\υ.H=H:=
 ⟨⟨τ.s,τ.g,H,⟨τ.r.ex,τ.r.live,τ.r.base,fun k h=>τ.r.new k (QQ hn h),fun k o e=>(ho k o e).elim .inl (τ.r.has k o),J hu<|τ.r.tab⟩⟩,rfl,rfl,rfl⟩
theorem BY(h:Hp):h.up.next=h.next+1:=by cases h;rfl
theorem Cy(h:Hp):h.up.used=h.used:=by cases h;rfl
theorem GJ(h:Hp)(k:Nat):h.up.obj k=h.obj k:=by cases h;rfl
theorem E8(f:Nat){st:Stmt}(e:lN CM f=some st)(hf:f < 54){o:Obj}{fd:FuncData}{body:List Stmt}(q:om (KT w.params) (ik f)=some (o,fd,body)):fd.params=xj st/\fd.scope=EA st/\body=AW st:=by have t:=congrArg (fun l=>l[f]?) (Es w.params);rw [hV] at e;rw [List.getElem?_map,List.getElem?_range hf,List.getElem?_map,e] at t;simp only[Option.map_some,Option.some.injEq] at t;rw [q] at t;simpa only[Option.map_some,Option.some.injEq,Prod.mk.injEq] using t
theorem N7:(tn 53).map (fun q=>q.ps)=some [(1954047348,none)]:=by kernel_rfl
theorem D0(kp:Kept w h₀):Jn:=by
 intro n A hA σ t R h;refine an (Option.map_eq_some_iff.mp N7) fun q hq hps=>da (ma hq) fun ns zs ds body o fd dv F ρ hf=>?_;subst ρ;refine fp (E8 53 rfl (by decide) hf) fun t1 t2 t3=>?_;obtain hns:ns=jt:=by(exact aQ F.nms<|J t2 rfl)
 subst hns;subst t3;replace hps:lY (zs.length - ds.length) zs ds= [(1954047348,none)]:=hps;have C:=k_ kp;refine bA (Ap σ.H (m:=ae (fun Y=>none) 1954047348 (.lit 23157120498421321)) (du _ _ _)) fun g g1 g2 g3 g4=>pK C (l9 (kF kp)) F hA (r:=(.lit 32199642103180905,g)) (k:=fun m=>qm m σ.H (fun Y Y=>none) (fun Y Y=>none) (fun v h=>some (v,h))) ?_ (.cons (.lit _ t) .nil) fun env τ m l eh fr nf hn hc hq e rE E=>?_
 ·exact J hps<|g4 _ _ _
 ·obtain out:∀{υ},Le (dF jt env) τ υ->Le dH σ υ:=fun l2=>(l.wide.trans l2).narrow fun b o q=>nf b q.has o;refine ui C (fun Y h=>h) (A.deeper env) rE τ env m fr hn _ _ _ _ (J eh<|e) _ _ ⟨fun υ m2 l2 f2 e=>nn e,fun υ m2 l2 f2 e=>nn e,fun υ v u l2 rv e=>?_⟩;obtain⟨rfl,rfl⟩:=pj e
  obtain⟨Y,w1,w2,w3⟩:=υ.less σ.H.up (by(refine J g2<|J (BY _) ?_);exact QR _) (by(exact J (Cy _)<|J g3 rfl)) fun k o e=>by
   rw [GJ] at e;by_cases c:k=σ.H.next
   ·subst c;refine .inl ((σ.r.has _ o e).elim id fun⟨a,d,z,_⟩=>?_);rw [σ.r.new _ (QR _)] at z;exact nn z
   ·exact .inr ((g1 k c).trans e)
  have lo:=out l2;exact aQ w1<|h Y u ⟨J w2<|lo.g,fun b o e n=>J w2<|lo.f b o e n,J w1<|lo.s⟩ (J w2<|rv) w3
section
variable{O:CK}
abbrev jp:cW:=(EA (gB 14)).names
theorem Gu:AW (gB 14)=.If (.BoolOp .Or [.Compare (.Name (am 1871002853623542610292) ⟨274,7,274,16⟩) [.Is] [.Constant .none 0 ⟨274,20,274,24⟩] ⟨274,7,274,24⟩,
   .Compare (.Call (.Attribute (.Name (am 1871002853623542610292) ⟨274,28,274,37⟩) (am 482805445747) ⟨274,28,274,43⟩) [.Name (am 91556946202707) ⟨274,44,274,50⟩] [] ⟨274,28,274,51⟩) [.Eq] [.Constant (.str (am 0)) 0 ⟨274,55,274,57⟩] ⟨274,28,274,57⟩] ⟨274,7,274,57⟩)
   (match AW (gB 14) with|.If _ a _ _::_=>a|_=> []) [] ⟨274,4,275,21⟩::
  .Assign [.Name (am 1701667182) ⟨276,4,276,8⟩] (.Call (.Name (am 497792555007546661564262) ⟨276,11,276,21⟩) [.Name (am 1871002853623542610292) ⟨276,22,276,31⟩] [] ⟨276,11,276,32⟩) ⟨276,4,276,32⟩::
  .If (.Compare (.Constant (.str (am 7630441)) 0 ⟨277,7,277,12⟩) [.In] [.Name (am 1701667182) ⟨277,16,277,20⟩] ⟨277,7,277,20⟩) [.Return (some (.Constant (.str (am 32199642103180905)) 0 ⟨278,15,278,24⟩)) ⟨278,8,278,24⟩] [] ⟨277,4,278,24⟩::(AW (gB 14)).drop 3:=by kernel_rfl
def Bo:SE:=fun m h k=>gN 1871002853623542610292 m h fun x h=>nH (x=.lit 23157120498421321) (k (.lit 23157120498421321) h)
def L':SE:=Mx true (rB (.cmp .Is) (gN 1871002853623542610292) (tq .none)) (rB (.cmp .Eq) Bo (tq (.lit 0)))
def Fm(O:CK):SE:=fun m h k=>gN 1871002853623542610292 m h fun x h=>O (.fn 53) [x] h k
def O9:SE:=fun m h k=>gN 1701667182 m h fun y h=>ag (di y) fun c=>ay (Nat.beq c 32199642103180905) (k (.bool true) h) none
def p8(O:CK):SS:=nM (MZ L' AV wU) (nM (Gs (Fm O) (hU O (.var false 1701667182))) (nM (MZ O9 (nM (GP (tq (.msg 10))) wU) AV) AV))
theorem tM(hm:m 1871002853623542610292=some (.lit 23157120498421321)):p8 O m h kn kb kr=O (.fn 53) [.lit 23157120498421321] h fun v h=>ag (di v) fun c=>ay (Nat.beq c 32199642103180905) (kr (.msg 10) h) none:=by
 refine(?_ :ag (m 1871002853623542610292) (fun x=>ag (ba h .Is x .none) fun t=>ag (some t) fun t=>ay (xor t true)
  (ag (m 1871002853623542610292) fun x=>nH (x=.lit 23157120498421321) (ag (ba h .Eq (.lit 23157120498421321) (.lit 0)) fun b=>ag (some b) fun t=>ay t none (ag (m 1871002853623542610292) fun x=>O (.fn 53) [x] h fun v h=>ag (ae m 1701667182 v 1701667182) fun y=>ag (di y) fun c=>ay (Nat.beq c 32199642103180905) (kr (.msg 10) h) none)))
  (ag (some t) fun t=>ay t none (ag (m 1871002853623542610292) fun x=>O (.fn 53) [x] h fun v h=>ag (ae m 1701667182 v 1701667182) fun y=>ag (di y) fun c=>ay (Nat.beq c 32199642103180905) (kr (.msg 10) h) none)))=_)
 refine J hm<|J oS<|J (show ba h .Is (.lit 23157120498421321) .none=some false from rfl)<|J oS<|J oS ?_;refine(?_ :nH (V.lit 23157120498421321=.lit 23157120498421321) (ag (ba h .Eq (.lit 23157120498421321) (.lit 0)) fun b=>ag (some b) fun t=>ay t none (O (.fn 53) [.lit 23157120498421321] h fun v h=>ag (ae m 1701667182 v 1701667182) fun y=>ag (di y) fun c=>ay (Nat.beq c 32199642103180905) (kr (.msg 10) h) none))=_);refine J (oT rfl)<|J (show ba h .Eq (.lit 23157120498421321) (.lit 0)=some false from rfl)<|J oS<|J oS ?_;congr 1
theorem Oz:(bK jp (am 1701667182),tY (bK jp (am 1871002853623542610292)),qW (bK jp (am 91556946202707)),qW (bK jp (am 497792555007546661564262)))=(some .local,true,true,true):=by kernel_rfl
noncomputable def MH:Str:=⟨#[32,9,10,11,12,13]⟩
theorem Of(P:Params):(nsIn (KT P) mainGlobals (am 91556946202707),nsIn (KT P) mainGlobals (am 497792555007546661564262),keepIn (KT P) (.ref (ik 53)))=(some (some (.str MH 697)),some (some (.ref (ik 53))),true):=by kernel_rfl
theorem ym:Txt.stripChars (am 23157120498421321) MH=am 23157120498421321:=by kernel_rfl
theorem Ma:(!(Builtin.Str.occurrences (am 32199642103180905) (am 7630441) 0 (am 32199642103180905).length 1).isEmpty)=true:=by kernel_rfl
theorem Ig:a9 n ns (tq .none) (.Constant .none kk pos):=fun A hA σ env m fr k r e Q E hQ=>wpAny_Constant_none (hQ σ _ _ (.refl _) .none e)
theorem Kt:a9 n ns (tq (.msg 10)) (.Constant (.str (am 32199642103180905)) kk pos):=fun A hA σ env m fr k r e Q E hQ=>wpAny_Constant_str (hQ (σ.tk _) _ _ σ.tk_le (.msg 10 _ _ (by decide+kernel) (by decide+kernel)) e)
theorem tQ(C:Cx)(cs:cF n O)(hE:∀env,EP env->env.scope.names=jp):dS n EP jp (p8 O) (AW (gB 14)):=by
 obtain⟨q1,q2,q3,q4⟩:bK jp (am 1701667182)=some .local/\tY (bK jp (am 1871002853623542610292))=true/\qW (bK jp (am 91556946202707))=true/\qW (bK jp (am 497792555007546661564262))=true:=by have:=Oz;simpa only[Prod.mk.injEq] using this
 obtain⟨g1,g2,g3⟩:nsIn K mainGlobals (am 91556946202707)=some (some (.str MH 697))/\nsIn K mainGlobals (am 497792555007546661564262)=some (some (.ref (ik 53)))/\keepIn K (.ref (ik 53))=true:=by obtain this:=Of w.params;refine J K_eq ?_;simpa only[Prod.mk.injEq] using this
 obtain v1:tY (bK jp (am 1701667182))=true:=by refine J q1 ?_;rfl
 obtain strip:∀p1 p2 p3 p4,(p2.endLine == p4.line)=true->a9 n jp Bo (.Call (.Attribute (.Name (am 1871002853623542610292) p1) (am 482805445747) p2) [.Name (am 91556946202707) p3] [] p4):=fun p1 p2 p3 p4 hl A hA σ env m fr k r e Q E hQ=>by refine Call_method1 rfl rfl hl (kh q2 A hA σ env m fr _ r e _ E fun τ x u l ru e=>?_);refine xA (ot (show nH (x=.lit 23157120498421321) (k (.lit 23157120498421321) τ.H)=some r from e)) fun xe e2=>?_;subst xe;refine xE (dh ru) fun t ρ=>J ρ<|SB.stripChars (hO (fr.le l) q3 C (.inl g1) ⟨MH,697,rfl,fun t2 tk=>?_⟩) (by decide+kernel);exact J ym<|hQ (τ.tk tk) _ _ (l.trans τ.tk_le) (.lit _ _) e2
 obtain cal:∀p1 p2 p3,a9 n jp (Fm O) (.Call (.Name (am 497792555007546661564262) p1) [.Name (am 1871002853623542610292) p2] [] p3):=fun p1 p2 p3 A hA σ env m fr k r e Q E hQ=>by
  refine wpAny_Call_NameR (hO fr q4 C (.inl g2) ?_);refine qd hA rfl (BP rfl (kh q2)) fr (k:=fun xs h=>match xs with| [x]=>O (.fn 53) [x] h k|_=>none) e (keeps_K g3) (fun τ Y=>τ.kin C.G.kin C.G.nt) fun τ xs vals l rv Y e=>?_
  cases rv with
  |nil=>exact nn e
  | @cons x u xs vals r1 r2=>
   cases r2 with
   |cons=>exact nn e
   |nil=>exact wpAny_call (cs A hA.toC τ (.fn 53) _ [x] [u] k r e (.fn 53) (.cons r1 .nil) _ (hQ.from l))
 obtain inn:∀p1 p2 p3,jD n jp O9 (.Compare (.Constant (.str (am 7630441)) 0 p1) [.In] [.Name (am 1701667182) p2] p3):=fun p1 p2 p3 A hA σ env m fr k r e Q E hQ=>by
  obtain e2:yc (tq (.lit 7630441)) (gN 1701667182) m σ.H (fun x y h=>nH (x=.lit 7630441) (ag (di y) fun c=>ay (Nat.beq c 32199642103180905) (k (.bool true) h) none))=some r:=by
   refine an (aZ e) fun v h1 h2=>(?_ :ag (m 1701667182) (fun y=>nH (V.lit 7630441=.lit 7630441) (ag (di y) fun c=>ay (Nat.beq c 32199642103180905) (k (.bool true) σ.H) none))=_)
   (refine J h1<|J oS<|J (oT rfl) ?_);exact h2
  refine wpAny_isTrue_Compare1 (mz (sf) (kh v1) hA fr e2 fun τ x y u z l ru rz e=>?_) rfl;refine xA (ot (show nH (x=.lit 7630441) (ag (di y) fun c=>ay (Nat.beq c 32199642103180905) (k (.bool true) τ.H) none)=some r from e)) fun xe e3=>an (aZ e3) fun c e4 e7=>xA (eA e7) fun e5 e6=>?_;subst xe;cases iy e4;rw [Nat.eq_of_beq_eq_true e5] at rz;refine xE (dh ru) fun t ρ=>J ρ<|xE (dh rz) fun t2 ρ=>?_;subst ρ;exact P.in_str<|J Ma<|wpAny_truthy_bool (hQ τ true l e6)
 refine J Gu<|jZ (GN ?_ vI re) (jZ (EH hE (BI q1) (cal _ _ _) rfl rfl rfl) (jZ (GN (inn _ _ _) (jZ (EU Kt) re) vI) vI));exact fun A hA σ env m fr k r e Q E hQ=>wpAny_isTrue_BoolOp (oQ (op:=.Or) (mG C (kh q2) Ig rfl) (qY (mG C (strip _ _ _ _ rfl) sf rfl)) A hA σ env m fr k r e Q E hQ)
theorem On:(tn 25).map (fun q=>q.ps)=some [(1871002853623542610292,none)]:=by kernel_rfl
theorem HR(kp:Kept w h₀):O1:=by
 intro n A O cs hA σ t R k r e h;refine an (Option.map_eq_some_iff.mp On) fun q hq hps=>da (ma hq) fun ns zs ds body o fd dv F ρ hf=>?_;subst ρ;refine fp (E8 25 rfl (by decide) hf) fun t1 t2 t3=>?_;obtain hns:ns=jp:=by(exact aQ F.nms<|J t2 rfl)
 subst hns;subst t3;replace hps:lY (zs.length - ds.length) zs ds= [(1871002853623542610292,none)]:=hps;have C:=k_ kp;refine pK C (l9 (kF kp)) F hA (r:=r) (k:=fun m=>p8 O m σ.H (fun Y Y=>none) (fun Y Y=>none) k) ?_ (.cons (.lit _ t) .nil) fun env τ m l eh fr nf hn hc hq e rE E=>?_
 ·exact J hps<|(tM (du _ _ _)).trans e
 ·obtain out:∀{υ},Le (dF jp env) τ υ->Le dH σ υ:=fun l2=>(l.wide.trans l2).narrow fun b o q=>nf b q.has o;exact tQ C cs (fun Y h=>h) (A.deeper env) rE τ env m fr hn _ _ _ _ (J eh<|e) _ _ ⟨fun υ m2 l2 f2 e=>nn e,fun υ m2 l2 f2 e=>nn e,fun υ v u l2 rv e=>h υ v u (out l2) rv e⟩
end
end
section
set_option maxRecDepth 100000
open PySem
theorem Pu(w:cq):GI ⟨false,false,false,none⟩ w:=by cases w<;>exact fun lo ep cs=>by kernel_rfl
theorem Qs(w:cq):GU ⟨false,false,false,none⟩ w:=by cases w<;>exact fun lo ep cs=>by kernel_rfl
theorem Py(d:Int)(w:cq):GI ⟨false,false,false,some d⟩ w:=by cases w<;>exact fun lo ep cs=>by kernel_rfl
theorem PO(d:Int)(w:cq):GU ⟨false,false,false,some d⟩ w:=by cases w<;>exact fun lo ep cs=>by kernel_rfl
theorem P6(w:cq):GI ⟨false,false,true,none⟩ w:=by cases w<;>exact fun lo ep cs=>by kernel_rfl
theorem PH(w:cq):GU ⟨false,false,true,none⟩ w:=by cases w<;>exact fun lo ep cs=>by kernel_rfl
theorem Qd(d:Int)(w:cq):GI ⟨false,false,true,some d⟩ w:=by cases w<;>exact fun lo ep cs=>by kernel_rfl
theorem P_(d:Int)(w:cq):GU ⟨false,false,true,some d⟩ w:=by cases w<;>exact fun lo ep cs=>by kernel_rfl
theorem Pv(w:cq):GI ⟨false,true,false,none⟩ w:=by cases w<;>exact fun lo ep cs=>by kernel_rfl
theorem PT(w:cq):GU ⟨false,true,false,none⟩ w:=by cases w<;>exact fun lo ep cs=>by kernel_rfl
theorem PP(d:Int)(w:cq):GI ⟨false,true,false,some d⟩ w:=by cases w<;>exact fun lo ep cs=>by kernel_rfl
theorem Pq(d:Int)(w:cq):GU ⟨false,true,false,some d⟩ w:=by cases w<;>exact fun lo ep cs=>by kernel_rfl
theorem Qk(w:cq):GI ⟨false,true,true,none⟩ w:=by cases w<;>exact fun lo ep cs=>by kernel_rfl
theorem P9(w:cq):GU ⟨false,true,true,none⟩ w:=by cases w<;>exact fun lo ep cs=>by kernel_rfl
theorem Pw(d:Int)(w:cq):GI ⟨false,true,true,some d⟩ w:=by cases w<;>exact fun lo ep cs=>by kernel_rfl
theorem Qu(d:Int)(w:cq):GU ⟨false,true,true,some d⟩ w:=by cases w<;>exact fun lo ep cs=>by kernel_rfl
theorem Ql(w:cq):GI ⟨true,false,false,none⟩ w:=by cases w<;>exact fun lo ep cs=>by kernel_rfl
theorem PW(w:cq):GU ⟨true,false,false,none⟩ w:=by cases w<;>exact fun lo ep cs=>by kernel_rfl
theorem PQ(d:Int)(w:cq):GI ⟨true,false,false,some d⟩ w:=by cases w<;>exact fun lo ep cs=>by kernel_rfl
theorem PB(d:Int)(w:cq):GU ⟨true,false,false,some d⟩ w:=by cases w<;>exact fun lo ep cs=>by kernel_rfl
theorem N0(w:cq):GI ⟨true,false,true,none⟩ w:=by cases w<;>exact fun lo ep cs=>by kernel_rfl
theorem Nb(w:cq):GU ⟨true,false,true,none⟩ w:=by cases w<;>exact fun lo ep cs=>by kernel_rfl
theorem OK(d:Int)(w:cq):GI ⟨true,false,true,some d⟩ w:=by cases w<;>exact fun lo ep cs=>by kernel_rfl
theorem Nr(d:Int)(w:cq):GU ⟨true,false,true,some d⟩ w:=by cases w<;>exact fun lo ep cs=>by kernel_rfl
theorem N'(w:cq):GI ⟨true,true,false,none⟩ w:=by cases w<;>exact fun lo ep cs=>by kernel_rfl
theorem OM(w:cq):GU ⟨true,true,false,none⟩ w:=by cases w<;>exact fun lo ep cs=>by kernel_rfl
theorem Ni(d:Int)(w:cq):GI ⟨true,true,false,some d⟩ w:=by cases w<;>exact fun lo ep cs=>by kernel_rfl
theorem Ok(d:Int)(w:cq):GU ⟨true,true,false,some d⟩ w:=by cases w<;>exact fun lo ep cs=>by kernel_rfl
theorem Oo(w:cq):GI ⟨true,true,true,none⟩ w:=by cases w<;>exact fun lo ep cs=>by kernel_rfl
theorem Om(w:cq):GU ⟨true,true,true,none⟩ w:=by cases w<;>exact fun lo ep cs=>by kernel_rfl
theorem N3(d:Int)(w:cq):GI ⟨true,true,true,some d⟩ w:=by cases w<;>exact fun lo ep cs=>by kernel_rfl
theorem No(d:Int)(w:cq):GU ⟨true,true,true,some d⟩ w:=by cases w<;>exact fun lo ep cs=>by kernel_rfl
theorem J3:∀c w,GI c w:=by rintro⟨k,p,m,d⟩ w;cases k<;>cases p<;>cases m<;>cases d;exact Pu w;exact Py _ w;exact P6 w;exact Qd _ w;exact Pv w;exact PP _ w;exact Qk w;exact Pw _ w;exact Ql w;exact PQ _ w;exact N0 w;exact OK _ w;exact N' w;exact Ni _ w;exact Oo w;exact N3 _ w
theorem JG:∀c w,GU c w:=by rintro⟨k,p,m,d⟩ w;cases k<;>cases p<;>cases m<;>cases d;exact Qs w;exact PO _ w;exact PH w;exact P_ _ w;exact PT w;exact Pq _ w;exact P9 w;exact Qu _ w;exact PW w;exact PB _ w;exact Nb w;exact Nr _ w;exact OM w;exact Ok _ w;exact Om w;exact No _ w
end
section
set_option maxRecDepth 100000
set_option maxHeartbeats 0
open PySem PySem.Calls PyProof.Rows PySem.W PySem.SeqAt
theorem Hf(P:Params):((pU P).get 3).bind (fun o=>match o.data with|.dict es _=>nsFind es "law"|_=>none)=some (.ref 554):=by kernel_rfl
theorem zC(P:Params):(pU P).get 466=some (tabObj #[]):=by kernel_rfl
theorem Hv(kp:Kept w h₀)(h:h₀.Ns mainGlobals mg):mg "law"=some (.ref 554):=by
 refine eK h fun o es ep e1 e2 Y e3=>?_;have z:=Hf w.params
 cases q:(pU w.params).get 3 with
 |none=>rw [q] at z;exact nomatch z
 |some o'=>have z1:=kp 3 o' (by decide) q;rw [show(3:Nat)=mainGlobals from rfl,e1] at z1;cases z1;rw [q] at z;(refine aQ (e3 _) ?_;refine aQ z ?_);refine(?_ :_=(match o.data with|.dict es _=>nsFind es "law"|_=>none));exact J e2 rfl
def g₀:Gh:=⟨fun _=>none,fun b=>@Bool.rec (fun _=>Ow) (@Option.rec Obj (fun _=>Ow) .free .g (h₀.get? b)) .t (Nat.beq b 466)⟩
theorem Kc:g₀.w 466=.t:=rfl
theorem CJ(h:b≠466):g₀.w b=@Option.rec Obj (fun _=>Ow) .free .g (h₀.get? b):=by refine(?_ :@Bool.rec (fun _=>Ow) (@Option.rec Obj (fun _=>Ow) .free .g (h₀.get? b)) .t (Nat.beq b 466)=_);exact J (natE.f h) rfl
theorem Kf(kp:Kept w h₀):D8 g₀ (bH (fun _=>none) 1) h₀:=by
 have t:=kp 466 _ (by decide) (zC _);refine⟨fun b o e=>?_,fun b e=>?_,fun b o e n=>?_,fun k _=>rfl,fun k o e=>?_,⟨Kc,#[],t,trivial,fun _ _=>rfl⟩⟩
 ·by_cases c:b=466
  ·subst c;exact nomatch e
  ·obtain e:=(CJ c)▸e
   cases q:h₀.get? b with
   |none=>rw [q] at e;exact nomatch e
   |some o'=>rw [q] at e;exact e
 ·obtain c:b≠466:=fun c=>by subst c;rw [t] at e;exact nomatch e
  (refine J (CJ c) ?_;exact J e rfl)
 ·(refine J (CJ n) ?_;exact J e rfl)
 ·exfalso;replace e:@Bool.rec (fun _=>Option aB) none (Tr.nl.get k (GV (Nat.sub k 1024))) (Nat.ble 1024 k)=some o:=e
  cases q:Nat.ble 1024 k with
  |false=>rw [q] at e;exact nomatch e
  |true=>rw [q] at e;exact nomatch e
theorem AP:∀{vs:List Value} {xs:List WData},WellAll w.params h₀ vs xs->WShape.hasItems cl xs .int=true->∃is:List Int,is.length=xs.length/\c6 g₀ (is.map V.int) vs
 | [],_,wl,h=>by cases wl;exact⟨[],rfl,.nil⟩
 |v::vs,_,wl,h=>by
  cases wl with
  | @cons _ _ d ds w1 w2=>
  refine xE (hasW_int (hasItemsW_at h d (.head _))) fun i ρ1=>?_;subst ρ1;obtain⟨is,h1,h2⟩:=AP (xs:=ds) w2 (by simp only[WShape.hasItems,Bool.and_eq_true] at h;exact h.2);cases w1;exact⟨i::is,congrArg Nat.succ h1,.cons (.int _ _) h2⟩
theorem B_(h:uc.pre.holds [] {args:= [.list xs]}=true):xs.length<=63:=by
 obtain e:uc.pre.holds [] {args:= [.list xs]}= !(decide ((63:Int) < xs.length)):=by refine(?_ :WTm.holds [] (.and (.not (.lt (.lit (.int (63:Nat))) (.len (.arg 0)))) (.lit (.bool true))) {args:= [.list xs]}=_);delta WTm.holds;simp only[WTm.value,List.getElem?_cons_zero];refine J (show less? (.int ((63:Nat):Int)) (.int (xs.length:Int))=some (decide ((63:Int) < xs.length)) from rfl) ?_;cases decide ((63:Int) < xs.length)<;>rfl
 rw [e] at h
 cases q:decide ((63:Int) < xs.length) with
 |true=>rw [q] at h;exact d_ h
 |false=>have:=of_decide_eq_false q;omega
theorem LQ(kp:Kept w h₀)(hpre:uc.row.toRowW.claim.pre args=true)(wl:WellAll w.params h₀ vals args):∃(is:List Int) (u:Value),vals= [u]/\is.length<=63/\VR g₀ (.fl (is.map V.int)) u:=by
 refine xA (pre_splitW hpre) fun h1 h2=>?_;refine bV (hasAllW_cons h1) fun d r ρ2 h3 h4=>?_;subst ρ2;cases hasAllW_nil h4;obtain⟨xs,rfl,h5⟩:=hasW_list h3;have hl:xs.length<=63:=B_ h2
 cases wl with
 |cons w1 w2=>
 cases w2
 cases w1 with
 | @list a vs _ e w3=>
 obtain⟨is,h6,h7⟩:=AP w3 h5;obtain na:a≠466:=fun c=>by subst c;rw [kp 466 _ (by omega) (zC _)] at e;exact nomatch (congrArg Obj.cls (Option.some.inj e))
 exact⟨is,_,rfl,by omega,lr (vs:=vs.toArray) (n:=0) (by(refine J (CJ na) ?_;exact J e rfl)) h7⟩
theorem Ek:yG w h₀:=by
 intro w' s₀ s₁ mg mb G y a o pm cd doc dV kV h2 h3 h4 h5 h6 hg args vals as hpre hlay rd wl FG;refine fp y fun kp ρ1 hh=>?_;subst ρ1;rw [hh] at kp wl
 obtain ha:a=554:=by
  obtain z:=Hv kp (hh▸G.T.g)
  (obtain h6:=(show dL.name=("law":Str) by kernel_rfl)▸h6;obtain h6:=z▸h6)
  exact(Value.ref.inj (Option.some.inj h6)).symm
 refine J ha ?_;refine bV (LQ kp hpre wl) fun is u ρ2 hl ru=>?_;subst ρ2;obtain⟨h',run⟩:=Ft (lo:=fun _=>none) J3 JG (is:=is) (by omega);let σ:VS:=⟨s₁,g₀,bH (fun _=>none) 1,by refine J hh ?_;exact Kf kp⟩
 obtain key:∀p,p=prog->wpAny (model p w) callerA (PySem.call (.ref 554) [u]) (fun v s'=>GoodWG uc.row.toRowW.claim (classAt s₀.heap) (ExcName.means s₀.heap) args s₁ (.ok (.ret v)) s') (fun e s'=>GoodWG uc.row.toRowW.claim (classAt s₀.heap) (ExcName.means s₀.heap) args s₁ (.error e) s') s₁:=by
  rintro _ rfl;refine wpAny_call ?_;refine rm kp (HR kp) (D0 kp) 13 callerA ⟨by decide,by decide,rfl,rfl⟩ σ (.fn 52) (.ref 554) [.fl (is.map V.int)] [u] (fun v h=>some (v,h)) (.bool true,h') (run _) (.fn 52) (.cons ru .nil) _ fun τ v x l rx e=>?_;cases e;cases qc rx;refine⟨.inl ⟨.bool true,.bool true,[],rfl,fun _=>rfl,.bool _,?_,fun _=>⟨.nil,fun _ h=>nomatch h⟩⟩,⟨fun b o e=>?_,fun b o e=>?_⟩,?_,?_⟩
  ·kernel_rfl
  ·by_cases c:b=466
   ·subst c;rw [hh,kp 466 _ (by omega) (zC _)] at e;cases e;refine an τ.r.tab.2 fun ps q Y=>?_;refine ij (codeHd_of_K (kF kp) (by rw [K_eq];exact E0 _)) fun oc vs ψ0=>?_;refine da ψ0 fun Y Y Y Y Y Y Y q1 q2 ψ1=>?_;refine fp ψ1 fun q3 q4 Y=>?_;exact .inr (.inl ⟨⟨470,oc,vs,hh▸q1,q2,q3,q4⟩,rfl,#[],ps,rfl,by refine J (show #[]++ps=ps by simp) ?_;exact q⟩)
   ·exact .inl (τ.r.ex b o (by refine J (τ.r.base b o (hh▸e) c) ?_;rfl))
  ·by_cases c:b=466
   ·subst c;refine an τ.r.tab.2 fun ps q Y=>?_;exact⟨_,q⟩
   ·exact⟨o,τ.r.ex b o (by refine J (τ.r.base b o (hh▸e) c) ?_;rfl)⟩
  ·have q:τ.s={s₁ with heap:=τ.s.heap,toks:=τ.s.toks}:=l.s;exact J q rfl
  ·obtain q:τ.s={s₁ with heap:=τ.s.heap,toks:=τ.s.toks}:=l.s;refine J q ?_;exact .of_eq hg
 exact key _ DA.symm
theorem holds_all:PySem.Challenge.rw_nt0111_01.Holds:=DR Ek
end
end Mine.Internal
theorem PySem.Challenge.cw_nt0111_01_holds : PySem.Challenge.rw_nt0111_01.Holds :=
 Mine.Internal.holds_all
